import PyProof.Rows.All
import Wide.All
import OpenK.AllK
import Wide.FinOn
import HandS.ForMost
import HandS.ForExc
import HandS.Property
import HandS.CallSlots
import HandS.Walk
import HandS.IsInst
import HandS.Wide
import HandS.WideBits
import HandS.ReplaceLit
import HandS.ReplaceList
import HandS.ExcInit
import HandS.ExcField
import HandS.ExcSuper
import KE.KExcSuper
import HandS.Style
import HandS.Dict
import HandS.More
import PyProof.NeKinds
import HandS.Text
import HandS.StrMore
import PyProof.Draws
import PyProof.EnumMake
import OpenK.KOps
import OpenK.KMeth
import KE.KOpsOwn
import KE.KFmtOwn
import PyProof.FactsAll.object_2
import PyProof.SliceStr2
import HandS.IterVal
import KE.KOwnIter
import PyProof.ListStr
import HandS.TryMany
import PyProof.LongRange
import HandS.TupAny
import HandS.TupSets
import HandS.OwnEq
import HandS.Defaults
import HandS.Deep
import HandS.Conv
import HandS.SortInts
import KE.SortData
import HandS.Zip
import HandS.SetFor
import HandS.Strs
import HandS.SetTxt0
import PySem.Challenge.RW_keptholes_k52_copies_by_all_moments
import KE.OsRunLaw
set_option Elab.async false
set_option linter.all false
set_option maxRecDepth 100000
set_option maxHeartbeats 1000000
namespace Kh
open PySem PySem.Spec L2

/-! ### data as trees -/
inductive Dat where
  | non | bl (b : Bool) | int (i : Int) | str (s : Str) | raw (v : V)
  | dic0 | scr (ns : List Int) | lst (xs : List Dat) | tup (xs : List Dat) | obj (C : Addr) (ns : List Str) (xs : List Dat)
  | xn (a dd : Addr) (ns : List Str) (xs : List Dat)
  | at (a : Addr) (d : Dat)

theorem Same.tpl {K : PySem.W.Frag} {H H' : Hp} {a : Addr} {xs : List V} (e : Same H H') (h : SqT K H a xs) : SqT K H' a xs := by
  rcases h with (h | ⟨o, h⟩) | h
  · exact .inl (.inl (e _ _ h))
  · exact .inl (.inr ⟨o, e _ _ h⟩)
  · exact .inr h

mutual
def Den (K : PySem.W.Frag) (G : Hp) : Dat → V → Prop
  | .non, v => v = .non
  | .bl b, v => v = .bl b
  | .int i, v => v = .int i
  | .str s, v => v = .str s
  | .raw u, v => v = u
  | .dic0, v => ∃ a, v = .ref a ∧ G a = some (.dK [])
  | .scr ns, v => ∃ a, v = .ref a ∧ SqL K G a (ns.map V.int)
  | .lst ds, v => ∃ a vs, v = .ref a ∧ G a = some (.lst vs) ∧ DenL K G ds vs
  | .tup ds, v => ∃ a vs, v = .ref a ∧ G a = some (.tup vs) ∧ DenL K G ds vs
  | .obj C ns ds, v => ∃ a dx vs, v = .ref a ∧ G a = some (.ins C dx (ns.zip vs)) ∧ G dx = some (.own a) ∧ DenL K G ds vs
  | .xn a dd ns ds, v => ∃ vs, v = .ref a ∧ G dd = some (.xd (ns.zip vs)) ∧ DenL K G ds vs
  | .at a d, v => v = .ref a ∧ Den K G d v
def DenL (K : PySem.W.Frag) (G : Hp) : List Dat → List V → Prop
  | [], vs => vs = []
  | d :: ds, vs => ∃ v r, vs = v :: r ∧ Den K G d v ∧ DenL K G ds r
end
section
variable {K : PySem.W.Frag} {G G' H H' : Hp}
mutual
theorem Den.mono (h : Same G G') : ∀ (d : Dat) (v : V), Den K G d v → Den K G' d v
  | .non, _, q => by simpa [Den] using q
  | .bl _, _, q => by simpa [Den] using q
  | .int _, _, q => by simpa [Den] using q
  | .str _, _, q => by simpa [Den] using q
  | .raw _, _, q => by simpa [Den] using q
  | .dic0, _, q => by
    simp only [Den] at q ⊢
    obtain ⟨a, e, g⟩ := q
    exact ⟨a, e, h _ _ g⟩
  | .scr _, _, q => by
    simp only [Den] at q ⊢
    obtain ⟨a, e, g⟩ := q
    exact ⟨a, e, h.seq g⟩
  | .lst ds, v, q => by
    simp only [Den] at q ⊢
    obtain ⟨a, vs, e, s, t⟩ := q
    exact ⟨a, vs, e, h _ _ s, DenL.mono h ds vs t⟩
  | .tup ds, v, q => by
    simp only [Den] at q ⊢
    obtain ⟨a, vs, e, s, t⟩ := q
    exact ⟨a, vs, e, h _ _ s, DenL.mono h ds vs t⟩
  | .obj C ns ds, v, q => by
    simp only [Den] at q ⊢
    obtain ⟨a, dx, vs, e, s, s2, t⟩ := q
    exact ⟨a, dx, vs, e, h _ _ s, h _ _ s2, DenL.mono h ds vs t⟩
  | .xn a dd ns ds, v, q => by
    simp only [Den] at q ⊢
    obtain ⟨vs, e, s, t⟩ := q
    exact ⟨vs, e, h _ _ s, DenL.mono h ds vs t⟩
  | .at a d, v, q => by
    simp only [Den] at q ⊢
    exact ⟨q.1, Den.mono h d v q.2⟩
theorem DenL.mono (h : Same G G') : ∀ (ds : List Dat) (vs : List V), DenL K G ds vs → DenL K G' ds vs
  | [], _, q => by simpa [DenL] using q
  | d :: ds, vs, q => by
    simp only [DenL] at q ⊢
    obtain ⟨v, r, e, s, t⟩ := q
    exact ⟨v, r, e, Den.mono h d v s, DenL.mono h ds r t⟩
end
theorem Den.up {d : Dat} {v : V} (q : Den K G d v) (h : Same G G') : Den K G' d v := Den.mono h d v q
theorem DenL.up {ds : List Dat} {vs : List V} (q : DenL K G ds vs) (h : Same G G') : DenL K G' ds vs := DenL.mono h ds vs q
theorem den_lst {a : Addr} {ds : List Dat} {vs : List V} (h : G a = some (.lst vs)) (q : DenL K G ds vs) : Den K G (.lst ds) (.ref a) := by
  simp only [Den]; exact ⟨a, vs, rfl, h, q⟩
theorem den_tup {a : Addr} {ds : List Dat} {vs : List V} (h : G a = some (.tup vs)) (q : DenL K G ds vs) : Den K G (.tup ds) (.ref a) := by
  simp only [Den]; exact ⟨a, vs, rfl, h, q⟩
theorem den_int {i : Int} : Den K G (.int i) (.int i) := by simp only [Den]
theorem den_bl {b : Bool} : Den K G (.bl b) (.bl b) := by simp only [Den]
theorem den_str {s : Str} : Den K G (.str s) (.str s) := by simp only [Den]
theorem den_non : Den K G .non .non := by simp only [Den]
theorem den_raw {v : V} : Den K G (.raw v) v := by simp only [Den]
theorem Den.lst_inv {ds : List Dat} {v : V} (q : Den K G (.lst ds) v) : ∃ a vs, v = .ref a ∧ G a = some (.lst vs) ∧ DenL K G ds vs := by simpa only [Den] using q
theorem Den.tup_inv {ds : List Dat} {v : V} (q : Den K G (.tup ds) v) : ∃ a vs, v = .ref a ∧ G a = some (.tup vs) ∧ DenL K G ds vs := by simpa only [Den] using q
theorem Den.obj_inv {C : Addr} {ns : List Str} {ds : List Dat} {v : V} (q : Den K G (.obj C ns ds) v) : ∃ a dx vs, v = .ref a ∧ G a = some (.ins C dx (ns.zip vs)) ∧ G dx = some (.own a) ∧ DenL K G ds vs := by simpa only [Den] using q
theorem Den.xn_inv {a dd : Addr} {ns : List Str} {ds : List Dat} {v : V} (q : Den K G (.xn a dd ns ds) v) : ∃ vs, v = .ref a ∧ G dd = some (.xd (ns.zip vs)) ∧ DenL K G ds vs := by simpa only [Den] using q
theorem Den.at_inv {a : Addr} {d : Dat} {v : V} (q : Den K G (.at a d) v) : v = .ref a ∧ Den K G d v := by simpa only [Den] using q
theorem Den.scr_inv {ns : List Int} {v : V} (q : Den K G (.scr ns) v) : ∃ a, v = .ref a ∧ SqL K G a (ns.map V.int) := by simpa only [Den] using q
theorem Den.dic0_inv {v : V} (q : Den K G .dic0 v) : ∃ a, v = .ref a ∧ G a = some (.dK []) := by simpa only [Den] using q
theorem Den.int_inv {i : Int} {v : V} (q : Den K G (.int i) v) : v = .int i := by simpa only [Den] using q
theorem Den.bl_inv {b : Bool} {v : V} (q : Den K G (.bl b) v) : v = .bl b := by simpa only [Den] using q
theorem Den.str_inv {s : Str} {v : V} (q : Den K G (.str s) v) : v = .str s := by simpa only [Den] using q
theorem Den.non_inv {v : V} (q : Den K G .non v) : v = .non := by simpa only [Den] using q
theorem Den.raw_inv {u v : V} (q : Den K G (.raw u) v) : v = u := by simpa only [Den] using q
theorem DenL.nil : DenL K G [] [] := by simp only [DenL]
theorem DenL.cons {d : Dat} {ds : List Dat} {v : V} {vs : List V} (h : Den K G d v) (q : DenL K G ds vs) : DenL K G (d :: ds) (v :: vs) := by
  simp only [DenL]; exact ⟨v, vs, rfl, h, q⟩
theorem DenL.nil_inv {vs : List V} (q : DenL K G [] vs) : vs = [] := by simpa only [DenL] using q
theorem DenL.cons_inv {d : Dat} {ds : List Dat} {vs : List V} (q : DenL K G (d :: ds) vs) : ∃ v r, vs = v :: r ∧ Den K G d v ∧ DenL K G ds r := by simpa only [DenL] using q
theorem DenL.length : ∀ {ds : List Dat} {vs : List V}, DenL K G ds vs → vs.length = ds.length
  | [], _, q => by rw [q.nil_inv]; rfl
  | d :: ds, _, q => by
    obtain ⟨v, r, rfl, _, t⟩ := q.cons_inv
    simp only [List.length_cons, t.length]
theorem DenL.get : ∀ {ds : List Dat} {vs : List V} {i : Nat} {d : Dat}, DenL K G ds vs → ds[i]? = some d → ∃ v, vs[i]? = some v ∧ Den K G d v
  | [], _, _, _, _, e => by simp at e
  | _ :: _, _, 0, _, q, e => by
    obtain ⟨v, r, rfl, h, _⟩ := q.cons_inv
    simp at e; subst e
    exact ⟨v, rfl, h⟩
  | _ :: _, _, i + 1, _, q, e => by
    obtain ⟨v, r, rfl, _, t⟩ := q.cons_inv
    obtain ⟨u, h1, h2⟩ := DenL.get t (i := i) (by simpa using e)
    exact ⟨u, by simpa using h1, h2⟩
theorem DenL.append : ∀ {ds es : List Dat} {vs us : List V}, DenL K G ds vs → DenL K G es us → DenL K G (ds ++ es) (vs ++ us)
  | [], _, _, _, q, r => by rw [q.nil_inv]; exact r
  | _ :: _, _, _, _, q, r => by
    obtain ⟨v, t, rfl, h, q⟩ := q.cons_inv
    exact DenL.cons h (DenL.append q r)
theorem DenL.snoc {ds : List Dat} {d : Dat} {vs : List V} {v : V} (q : DenL K G ds vs) (h : Den K G d v) : DenL K G (ds ++ [d]) (vs ++ [v]) := q.append (.cons h .nil)
theorem DenL.take : ∀ {ds : List Dat} {vs : List V} (n : Nat), DenL K G ds vs → DenL K G (ds.take n) (vs.take n)
  | [], _, n, q => by rw [q.nil_inv]; simp only [List.take_nil]; exact .nil
  | _ :: _, _, 0, q => by simp only [List.take_zero]; exact .nil
  | _ :: _, _, n + 1, q => by
    obtain ⟨v, t, rfl, h, q⟩ := q.cons_inv
    exact DenL.cons h (DenL.take n q)
theorem DenL.drop : ∀ {ds : List Dat} {vs : List V} (n : Nat), DenL K G ds vs → DenL K G (ds.drop n) (vs.drop n)
  | [], _, n, q => by rw [q.nil_inv]; simp only [List.drop_nil]; exact .nil
  | _ :: _, _, 0, q => q
  | _ :: _, _, n + 1, q => by
    obtain ⟨v, t, rfl, h, q⟩ := q.cons_inv
    exact DenL.drop n q
theorem DenL.reverse : ∀ {ds : List Dat} {vs : List V}, DenL K G ds vs → DenL K G ds.reverse vs.reverse
  | [], _, q => by rw [q.nil_inv]; exact .nil
  | _ :: _, _, q => by
    obtain ⟨v, t, rfl, h, q⟩ := q.cons_inv
    simp only [List.reverse_cons]
    exact q.reverse.append (.cons h .nil)
theorem DenL.set {d : Dat} {v : V} (h : Den K G d v) : ∀ {ds : List Dat} {vs : List V} (i : Nat), DenL K G ds vs → DenL K G (ds.set i d) (vs.set i v)
  | [], _, _, q => by rw [q.nil_inv]; exact .nil
  | _ :: _, _, 0, q => by
    obtain ⟨u, t, rfl, _, q⟩ := q.cons_inv
    exact DenL.cons h q
  | _ :: _, _, i + 1, q => by
    obtain ⟨u, t, rfl, g, q⟩ := q.cons_inv
    exact DenL.cons g (DenL.set h i q)
theorem DenL.dropLast {ds : List Dat} {vs : List V} (q : DenL K G ds vs) : DenL K G ds.dropLast vs.dropLast := by
  rw [List.dropLast_eq_take, List.dropLast_eq_take, q.length]
  exact q.take _
/-- lists of ints, texts, bools by their values -/
theorem DenL.ints : ∀ {ns : List Int} {vs : List V}, DenL K G (ns.map Dat.int) vs → vs = ns.map V.int
  | [], _, q => q.nil_inv
  | n :: ns, _, q => by
    obtain ⟨v, t, rfl, h, q⟩ := q.cons_inv
    rw [h.int_inv, DenL.ints q]
    all_goals rfl
theorem denL_ints : ∀ {ns : List Int}, DenL K G (ns.map Dat.int) (ns.map V.int)
  | [] => .nil
  | n :: ns => .cons den_int denL_ints
theorem DenL.strs : ∀ {ns : List Str} {vs : List V}, DenL K G (ns.map Dat.str) vs → vs = ns.map V.str
  | [], _, q => q.nil_inv
  | n :: ns, _, q => by
    obtain ⟨v, t, rfl, h, q⟩ := q.cons_inv
    rw [h.str_inv, DenL.strs q]
    all_goals rfl
theorem denL_strs : ∀ {ns : List Str}, DenL K G (ns.map Dat.str) (ns.map V.str)
  | [] => .nil
  | n :: ns => .cons den_str denL_strs
end

/-! ### the slots -/
abbrev TEnv := List (Option Dat)
def DenE (K : PySem.W.Frag) (τ : TEnv) (G : Hp) (σ : St) : Prop := ∀ (i : Nat) (d : Dat), τ[i]? = some (some d) → ∃ v, σ[i]? = some (some v) ∧ Den K G d v
section
variable {K : PySem.W.Frag} {G G' : Hp} {τ : TEnv} {σ : St}
theorem DenE.up (q : DenE K τ G σ) (h : Same G G') : DenE K τ G' σ := fun i d e => let ⟨v, h1, h2⟩ := q i d e; ⟨v, h1, h2.up h⟩
theorem DenE.set {i : Nat} {d : Dat} {v : V} (q : DenE K τ G σ) (hi : i < σ.length) (h : Den K G d v) : DenE K (τ.set i (some d)) G (σ.set i (some v)) := fun j e hj => by
  by_cases c : i = j
  · subst c
    have hl : i < τ.length := by
      have := (List.getElem?_eq_some_iff.mp hj).1
      simpa using this
    rw [List.getElem?_set_self hl] at hj
    cases hj
    exact ⟨v, List.getElem?_set_self hi, h⟩
  · rw [List.getElem?_set_ne c] at hj
    obtain ⟨u, h1, h2⟩ := q j e hj
    exact ⟨u, by rw [List.getElem?_set_ne c]; exact h1, h2⟩
end

/-! ### what may change -/
inductive MC where
  | lst (ds : List Dat) | ins (C dx : Addr) (fs : List (Str × Dat)) | dic (kvs : List (Key × Dat))
abbrev Mem := List (Addr × MC)
def adr1 : Addr × MC → List Addr
  | (p, .ins _ dx _) => [p, dx]
  | (p, _) => [p]
def adr (M : Mem) : List Addr := M.flatMap adr1
/-- names with data against names with values -/
def DenF (K : PySem.W.Frag) (G : Hp) {κ : Type} (fs : List (κ × Dat)) (vs : List (κ × V)) : Prop := vs.map (·.1) = fs.map (·.1) ∧ DenL K G (fs.map (·.2)) (vs.map (·.2))
def MH (K : PySem.W.Frag) (G H : Hp) : Addr × MC → Prop
  | (p, .lst ds) => ∃ vs, H p = some (.lst vs) ∧ DenL K G ds vs
  | (p, .ins C dx fs) => ∃ vs, H p = some (.ins C dx vs) ∧ H dx = some (.own p) ∧ DenF K G fs vs
  | (p, .dic kvs) => ∃ vs, H p = some (.dK vs) ∧ DenF K G kvs vs
structure Hst (K : PySem.W.Frag) (G : Hp) (M : Mem) (H : Hp) : Prop where
  sub : Same G H
  mem : ∀ c ∈ M, MH K G H c
  out : ∀ b ∈ adr M, G b = none
  nd : (adr M).Nodup
structure Stp (G : Hp) (M : Mem) (H G2 : Hp) (M2 : Mem) (H2 : Hp) : Prop where
  gg : Same G G2
  hh : ∀ b o, b ∉ adr M → H b = some o → H2 b = some o
  fr : ∀ b, H b ≠ none → b ∉ adr M → G b = none → G2 b = none
  ad : ∀ b ∈ adr M2, b ∈ adr M ∨ H b = none
section
variable {K : PySem.W.Frag} {G G1 G2 G3 H H1 H2 H3 : Hp} {M M1 M2 M3 : Mem}
theorem DenF.up {κ : Type} {fs : List (κ × Dat)} {vs : List (κ × V)} (q : DenF K G fs vs) (h : Same G G1) : DenF K G1 fs vs := ⟨q.1, q.2.up h⟩
theorem Stp.refl : Stp G M H G M H := ⟨Same.refl _, fun _ _ _ e => e, fun _ _ _ e => e, fun _ h => .inl h⟩
theorem Stp.trans (a : Stp G M H G1 M1 H1) (b : Stp G1 M1 H1 G2 M2 H2) : Stp G M H G2 M2 H2 where
  gg := a.gg.trans b.gg
  hh := fun c o n e => by
    refine b.hh c o (fun z => ?_) (a.hh c o n e)
    rcases a.ad c z with z | z
    · exact n z
    · rw [e] at z; cases z
  fr := fun c hc n g => by
    have z1 : c ∉ adr M1 := fun z => by
      rcases a.ad c z with z | z
      · exact n z
      · exact hc z
    refine b.fr c (fun z => ?_) z1 (a.fr c hc n g)
    cases e : H c with
    | none => exact hc e
    | some o => rw [a.hh c o n e] at z; cases z
  ad := fun c h => by
    rcases b.ad c h with z | z
    · exact a.ad c z
    · refine (Classical.em (c ∈ adr M)).imp id fun n => ?_
      cases e : H c with
      | none => rfl
      | some o => rw [a.hh c o n e] at z; cases z
theorem MH.up {c : Addr × MC} (q : MH K G H c) (h : Same G G1) (e : ∀ b ∈ adr1 c, ∀ o, H b = some o → H1 b = some o) : MH K G1 H1 c := by
  obtain ⟨p, c⟩ := c
  cases c with
  | lst ds => obtain ⟨vs, h1, h2⟩ := q; exact ⟨vs, e p (by simp [adr1]) _ h1, h2.up h⟩
  | ins C dx fs => obtain ⟨vs, h1, h2, h3⟩ := q; exact ⟨vs, e p (by simp [adr1]) _ h1, e dx (by simp [adr1]) _ h2, h3.up h⟩
  | dic kvs => obtain ⟨vs, h1, h2⟩ := q; exact ⟨vs, e p (by simp [adr1]) _ h1, h2.up h⟩
theorem MH.there {c : Addr × MC} (q : MH K G H c) : ∀ b ∈ adr1 c, H b ≠ none := by
  obtain ⟨p, c⟩ := c
  intro b hb z
  cases c with
  | lst ds =>
    obtain ⟨vs, h1, h2⟩ := q
    have hb : b = p := by simpa [adr1] using hb
    rw [hb, h1] at z; cases z
  | ins C dx fs =>
    obtain ⟨vs, h1, h2, h3⟩ := q
    have hb : b = p ∨ b = dx := by simpa [adr1] using hb
    rcases hb with rfl | rfl
    · rw [h1] at z; cases z
    · rw [h2] at z; cases z
  | dic kvs =>
    obtain ⟨vs, h1, h2⟩ := q
    have hb : b = p := by simpa [adr1] using hb
    rw [hb, h1] at z; cases z
theorem Hst.there (h : Hst K G M H) : ∀ b ∈ adr M, H b ≠ none := fun b hb => by
  obtain ⟨c, hc, hb⟩ := List.mem_flatMap.mp hb
  exact (h.mem c hc).there b hb
theorem adr_append {A B : Mem} : adr (A ++ B) = adr A ++ adr B := by unfold adr; exact List.flatMap_append
theorem adr_perm {A B : Mem} (p : A.Perm B) : (adr A).Perm (adr B) := by unfold adr; exact p.flatMap_right _
theorem Hst.perm (h : Hst K G M H) (p : M.Perm M1) : Hst K G M1 H :=
  ⟨h.sub, fun c hc => h.mem c (p.mem_iff.mpr hc), fun b hb => h.out b ((adr_perm p).mem_iff.mpr hb), (adr_perm p).nodup_iff.mp h.nd⟩
theorem Stp.perm {A B : Mem} (s : Stp G M H G2 M2 H2) (p : M.Perm A) (q : M2.Perm B) : Stp G A H G2 B H2 :=
  ⟨s.gg, fun b o n e => s.hh b o (fun z => n ((adr_perm p).mem_iff.mp z)) e, fun b hb n g => s.fr b hb (fun z => n ((adr_perm p).mem_iff.mp z)) g,
    fun b hb => (s.ad b ((adr_perm q).mem_iff.mpr hb)).imp (fun z => (adr_perm p).mem_iff.mp z) id⟩
/-- a part of what may change -/
theorem Hst.left {A B : Mem} (h : Hst K G (A ++ B) H) : Hst K G A H :=
  ⟨h.sub, fun c hc => h.mem c (List.mem_append_left _ hc), fun b hb => h.out b (by rw [adr_append]; exact List.mem_append_left _ hb), by
    have := h.nd; rw [adr_append] at this; exact (List.nodup_append.mp this).1⟩
/-- the rest stays -/
theorem Stp.frame {A A2 B : Mem} (h : Hst K G (A ++ B) H) (s : Stp G A H G2 A2 H2) (h2 : Hst K G2 A2 H2) : Stp G (A ++ B) H G2 (A2 ++ B) H2 ∧ Hst K G2 (A2 ++ B) H2 := by
  have nd := h.nd
  rw [adr_append] at nd
  obtain ⟨n1, n2, n3⟩ := List.nodup_append.mp nd
  have nB : ∀ b ∈ adr B, b ∉ adr A := fun b hb ha => n3 b ha b hb rfl
  have th : ∀ b ∈ adr B, H b ≠ none := fun b hb => h.there b (by rw [adr_append]; exact List.mem_append_right _ hb)
  refine ⟨⟨s.gg, fun b o n e => s.hh b o (fun z => n (by rw [adr_append]; exact List.mem_append_left _ z)) e, fun b hb n g => s.fr b hb (fun z => n (by rw [adr_append]; exact List.mem_append_left _ z)) g, fun b hb => ?_⟩, h2.sub, fun c hc => ?_, fun b hb => ?_, ?_⟩
  · rw [adr_append] at hb ⊢
    rcases List.mem_append.mp hb with z | z
    · exact (s.ad b z).imp (fun y => List.mem_append_left _ y) id
    · exact .inl (List.mem_append_right _ z)
  · rcases List.mem_append.mp hc with z | z
    · exact h2.mem c z
    · exact (h.mem c (List.mem_append_right _ z)).up s.gg fun b hb o e => s.hh b o (nB b (List.mem_flatMap.mpr ⟨c, z, hb⟩)) e
  · rw [adr_append] at hb
    rcases List.mem_append.mp hb with z | z
    · exact h2.out b z
    · exact s.fr b (th b z) (nB b z) (h.out b (by rw [adr_append]; exact List.mem_append_right _ z))
  · rw [adr_append]
    refine List.nodup_append.mpr ⟨h2.nd, n2, fun a ha b hb e => ?_⟩
    subst e
    rcases s.ad a ha with z | z
    · exact nB a hb z
    · exact th a hb z
/-- a new thing of the unchanging part -/
theorem Stp.new {p : Addr} {o : HO} (h : Hst K G M H) (hp : H p = none) : Stp G M H (upd G p o) M (upd H p o) ∧ Hst K (upd G p o) M (upd H p o) := by
  have gp : G p = none := h.sub.free hp
  have nM : ∀ b ∈ adr M, b ≠ p := fun b hb e => h.there b hb (by rw [e]; exact hp)
  refine ⟨⟨fun b u e => ?_, fun b u _ e => ?_, fun b hb _ g => ?_, fun b hb => .inl hb⟩, fun b u e => ?_, fun c hc => (h.mem c hc).up (fun b u e => ?_) fun b hb u e => ?_, fun b hb => ?_, h.nd⟩
  · rw [upd_ne (ne_of_none e gp)]; exact e
  · rw [upd_ne (ne_of_none e hp)]; exact e
  · rw [upd_ne (fun e => hb (by rw [e]; exact hp))]; exact g
  · by_cases c : b = p
    · subst c; rw [upd_same] at e ⊢; exact e
    · rw [upd_ne c] at e ⊢; exact h.sub b u e
  · rw [upd_ne (ne_of_none e gp)]; exact e
  · rw [upd_ne (nM b (List.mem_flatMap.mpr ⟨c, hc, hb⟩))]; exact e
  · rw [upd_ne (nM b hb)]; exact h.out b hb
end
end Kh

set_option Elab.async false
set_option linter.all false
set_option maxRecDepth 100000
set_option maxHeartbeats 1000000
namespace Kh
open PySem PySem.Spec L2
open PyProof.Rows (isTrue_plain isTrue_not isTrue_and isTrue_or isTrue_and_nil isTrue_or_nil BoolOp_one BoolOp_and BoolOp_or UnaryOp_ not_of)

/-! ### the weakest readings; T: a token is out already -/
def Tk (T : Bool) (s : Shared) : Prop := T = true → 1 ≤ s.toks
theorem tk_f {s : Shared} : Tk false s := fun h => nomatch h
section
variable {α : Type} {t : Sem α} {Q Q' : α → Shared → Prop} {M : Model} {A : Around} {E : Value → Shared → Prop} {s : Shared} {T : Bool}
theorem thnT (hT : Tk T s) (h : wpAny M A t Q E s) (hQ : ∀ a s', Tk T s' → Q a s' → Q' a s') : wpAny M A t Q' E s := by
  cases T with
  | false => exact thn h fun a s' q => hQ a s' tk_f q
  | true => exact wpAny_with_toks (hT rfl) (wpAny_mono h (fun a s' q k => hQ a s' (fun _ => k) q) fun _ _ x _ => x)
end
def tW (X : Cx) (T : Bool) (e : Expr) : TE := fun σ H Q => ∀ pins s, Tk T s → Inv X pins σ H s → wpAny (model X.prog X.w) X.A (eval e X.env) (EP X pins σ Q) X.xe s
def tWT (X : Cx) (T : Bool) (e : Expr) : TT := fun σ H Q => ∀ pins s, Tk T s → Inv X pins σ H s → wpAny (model X.prog X.w) X.A (isTrue e X.env (eval e X.env)) (TP X pins σ Q) X.xe s
def tWW (X : Cx) (T : Bool) (e : Expr) : TT := fun σ H Q => ∀ whole pins s, Tk T s → Inv X pins σ H s → wpAny (model X.prog X.w) X.A (isTrue e X.env whole) (TP X pins σ Q) X.xe s
def tWA (X : Cx) (T : Bool) (es : List Expr) : TA := fun σ H Q => ∀ (pos : Pos) pins s, Tk T s → Inv X pins σ H s → wpAny (model X.prog X.w) X.A (spliced (backTo pos (starEach es X.env))) (AP X pins σ Q) X.xe s
def tWS (X : Cx) (T : Bool) (st : Stmt) : TS := fun D σ H => ∀ pins s, Tk T s → Inv X pins σ H s → wpAny (model X.prog X.w) X.A (exec st X.env) (SP X pins D) X.xe s
def tWSs (X : Cx) (T : Bool) (ss : List Stmt) : TS := fun D σ H => ∀ pins s, Tk T s → Inv X pins σ H s → wpAny (model X.prog X.w) X.A (execs ss X.env) (SP X pins D) X.xe s
def tWI (X : Cx) (T : Bool) (tg iter : Expr) : TI := fun σ H R => ∀ pins s, Tk T s → Inv X pins σ H s → wpAny (model X.prog X.w) X.A (eval iter X.env) (fun v s1 => wpAny (model X.prog X.w) X.A (pyIter v) (PIE X pins σ tg R) X.xe s1) X.xe s
def tWG (X : Cx) (T : Bool) (target : Expr) : TG := fun v σ H Q => ∀ pins s u, Tk T s → Inv X pins σ H s → RelV v u → wpAny (model X.prog X.w) X.A (assign target X.env u) (fun _ s' => ∃ σ' H', Inv X pins σ' H' s' ∧ Q σ' H') X.xe s
def tWGs (X : Cx) (T : Bool) (ts : List Expr) : TGs := fun vs σ H Q => ∀ pins s us, Tk T s → Inv X pins σ H s → Vals vs us → wpAny (model X.prog X.w) X.A (assignInOrder ((assignEach ts X.env).map (·.2)) us) (fun _ s' => ∃ σ' H', Inv X pins σ' H' s' ∧ Q σ' H') X.xe s
def rW (X : Cx) (T : Bool) (f : Value → Value → Sem Value) : R2 := fun x y H Q => ∀ pins s σ v u, Tk T s → Inv X pins σ H s → RelV x v → RelV y u → wpAny (model X.prog X.w) X.A (f v u) (EP X pins σ Q) X.xe s
section
variable {X : Cx} {T : Bool} {e a b c : Expr} {es rest' : List Expr} {st : Stmt} {ss rest : List Stmt} {tg iter : Expr} {pos : Pos} {σ : L2.St} {H : Hp} {Q : VK} {QT : Bool → Hp → Prop} {D : Ends}
theorem tW_of {t : TE} (h : PE X e t) (q : t σ H Q) : tW X T e σ H Q := fun pins s _ I => h.run pins s σ H Q I q
theorem tWA_of {t : TA} {Q : List V → Hp → Prop} (h : PA X es t) (q : t σ H Q) : tWA X T es σ H Q := fun pos pins s _ I => h.run pos pins s σ H Q I q
theorem tWS_of {t : TS} (h : PS X st t) (q : t D σ H) : tWS X T st D σ H := fun pins s _ I => h.run pins s σ H D I q
theorem tWSs_of {t : TS} (h : PSs X ss t) (q : t D σ H) : tWSs X T ss D σ H := fun pins s _ I => h.run pins s σ H D I q
theorem tWI_of {t : TI} {R : It → Hp → Prop} (h : PI X tg iter t) (q : t σ H R) : tWI X T tg iter σ H R := fun pins s _ I => h.run pins s σ H R I q
theorem tWG_of {t : TG} {v : V} {Q : L2.St → Hp → Prop} (h : PG X tg t) (q : t v σ H Q) : tWG X T tg v σ H Q := fun pins s u _ I r => h.run pins s σ H v u Q I r q
theorem rW_of {f : Value → Value → Sem Value} {r : R2} {x y : V} (h : OpR X f r) (q : r x y H Q) : rW X T f x y H Q := fun pins s σ v u _ I rx ry => h pins s σ H x y v u Q I rx ry q
/-- without the token -/
theorem pe_W : PE X e (tW X false e) := ⟨fun pins s _ _ _ I h => h pins s tk_f I⟩
theorem pt_W : PT X e (tWT X false e) := ⟨fun pins s _ _ _ I h => h pins s tk_f I⟩
theorem pa_W : PA X es (tWA X false es) := ⟨fun pos pins s _ _ _ I h => h pos pins s tk_f I⟩
theorem pi_W : PI X tg iter (tWI X false tg iter) := ⟨fun pins s _ _ _ I h => h pins s tk_f I⟩
theorem pg_W : PG X tg (tWG X false tg) := ⟨fun pins s _ _ _ u _ I r h => h pins s u tk_f I r⟩
theorem tWSs_len (h : σ.length = X.N.length → tWSs X T ss D σ H) : tWSs X T ss D σ H := fun pins s k I => h I.len pins s k I
theorem tWG_len {v : V} {Q : L2.St → Hp → Prop} (h : σ.length = X.N.length → tWG X T tg v σ H Q) : tWG X T tg v σ H Q := fun pins s u k I r => h I.len pins s u k I r
/-! the constructs, from the readings of their parts -/
theorem w_two {f : Value → Value → Sem Value} (q : tW X T a σ H fun x H1 => tW X T b σ H1 fun y H2 => rW X T f x y H2 Q) {pins : List (Addr × Obj)} {s : Shared} (k : Tk T s) (I : Inv X pins σ H s) :
    wpAny (model X.prog X.w) X.A (eval a X.env) (fun v s₁ => wpAny (model X.prog X.w) X.A (eval b X.env) (fun u s₂ => wpAny (model X.prog X.w) X.A (f v u) (EP X pins σ Q) X.xe s₂) X.xe s₁) X.xe s :=
  thnT k (q pins s k I) fun v s1 k1 ⟨x, H1, I1, r1, q1⟩ => thnT k1 (q1 pins s1 k1 I1) fun u s2 k2 ⟨y, H2, I2, r2, q2⟩ => q2 pins s2 σ v u k2 I2 r1 r2
theorem w_bin {op : Operator} (q : tW X T a σ H fun x H1 => tW X T b σ H1 fun y H2 => rW X T (binaryOp op) x y H2 Q) : tW X T (.BinOp a op b pos) σ H Q := fun pins s k I => wpAny_BinOp (w_two q k I)
theorem w_cmp {op : CmpOp} (hm : behindInMarks op b = false) (q : tW X T a σ H fun x H1 => tW X T b σ H1 fun y H2 => rW X T (compareOp op) x y H2 Q) : tW X T (.Compare a [op] [b] pos) σ H Q := fun pins s k I => wpAny_Compare1 (w_two q k I) hm
theorem w_val (he : ∀ whole, isTrue e X.env whole = (do let v ← whole; standAt e.pos; holding [v] (truthy v))) (q : tW X T e σ H fun x H1 => ∃ c, x = .bl c ∧ QT c H1) : tWT X T e σ H QT := fun pins s k I =>
  isTrue_plain (thnT k (q pins s k I) fun v s1 _ ⟨x, H1, I1, r1, c, ec, q1⟩ => by subst ec; cases r1; exact wpAny_truthy_bool ⟨H1, I1, q1⟩) (he _)
theorem w_cmpT {op : CmpOp} (hm : behindInMarks op b = false) (q : tW X T a σ H fun x H1 => tW X T b σ H1 fun y H2 => rW X T (compareOp op) x y H2 fun z H3 => ∃ c, z = .bl c ∧ QT c H3) : tWT X T (.Compare a [op] [b] pos) σ H QT := fun pins s k I =>
  wpAny_isTrue_Compare1 (thnT k (w_two q k I) fun v s1 _ h1 => thn h1 fun u s2 h2 => thn h2 fun cv s3 ⟨x, H1, I1, r1, c, ec, q1⟩ => by subst ec; cases r1; exact wpAny_truthy_bool ⟨H1, I1, q1⟩) hm
theorem w_not (q : tWT X T a σ H fun c H1 => QT (!c) H1) : tWT X T (.UnaryOp .Not a pos) σ H QT := fun pins s k I => isTrue_not (q pins s k I)
theorem w_or1 (q : tWT X T a σ H QT) : tWW X T (.BoolOp .Or [a] pos) σ H QT := fun wh pins s k I => isTrue_or (thn (q pins s k I) fun c s1 e => by
  cases c with
  | false => exact isTrue_or_nil e
  | true => exact e)
theorem w_or (q : tWT X T a σ H fun c H1 => if c = true then QT true H1 else tWW X T (.BoolOp .Or (b :: rest') pos) σ H1 QT) : tWW X T (.BoolOp .Or (a :: b :: rest') pos) σ H QT := fun wh pins s k I =>
  isTrue_or (thnT k (q pins s k I) fun c s1 k1 ⟨H1, I1, q1⟩ => by
    cases c with
    | false => exact q1 wh pins s1 k1 I1
    | true => exact ⟨H1, I1, q1⟩)
theorem v_one {op} (q : tW X T a σ H Q) : tW X T (.BoolOp op [a] pos) σ H Q := fun pins s k I => BoolOp_one (q pins s k I)
theorem v_and (q : tW X T a σ H fun x H1 => ∃ c, x = .bl c ∧ if c = true then tW X T (.BoolOp .And (b :: rest') pos) σ H1 Q else Q (.bl false) H1) : tW X T (.BoolOp .And (a :: b :: rest') pos) σ H Q := fun pins s k I =>
  BoolOp_and (thnT k (q pins s k I) fun v s1 k1 ⟨x, H1, I1, r1, c, ec, q1⟩ => by
    subst ec; cases r1
    refine wpAny_truthy_bool ?_
    cases c with
    | true => exact q1 pins s1 k1 I1
    | false => exact ⟨.bl false, H1, I1, rfl, q1⟩)
theorem v_not (q : tW X T a σ H fun x H1 => ∃ c, x = .bl c ∧ Q (.bl (!c)) H1) : tW X T (.UnaryOp .Not a pos) σ H Q := fun pins s k I =>
  UnaryOp_ (thn (q pins s k I) fun v s1 ⟨x, H1, I1, r1, c, ec, q1⟩ => by subst ec; cases r1; exact not_of (wpAny_truthy_bool ⟨.bl (!c), H1, I1, rfl, q1⟩))
theorem v_if (q : tWT X T c σ H fun k H1 => if k = true then tW X T a σ H1 Q else tW X T b σ H1 Q) : tW X T (.IfExp c a b pos) σ H Q := fun pins s k I =>
  wpAny_IfExp (thnT k (q pins s k I) fun d s1 k1 ⟨H1, I1, q1⟩ => by
    cases d with
    | true => exact q1 pins s1 k1 I1
    | false => exact q1 pins s1 k1 I1)
theorem wa_cons {Q : List V → Hp → Prop} (hs : starEach (e :: es) X.env = (false, eval e X.env) :: starEach es X.env) (q : tW X T e σ H fun x H1 => tWA X T es σ H1 fun xs H2 => Q (x :: xs) H2) : tWA X T (e :: es) σ H Q := fun pos pins s k I => by
  rw [hs]
  show wpAny _ _ (spliced ((false, eval e X.env) :: backTo pos (starEach es X.env))) _ _ s
  exact Calls.spliced_cons (thnT k (q pins s k I) fun u s1 k1 ⟨x, H1, I1, r1, q1⟩ => thn (q1 pos pins s1 k1 I1) fun us s2 ⟨xs, H2, I2, r2, q2⟩ => ⟨x :: xs, H2, I2, .cons r1 r2, q2⟩)
/-! statements -/
theorem ws_step' (q : tWS X T st { D with nx := tWSs X T rest D } σ H) : tWSs X T (st :: rest) D σ H := fun pins s k I =>
  wpAny_execs_cons (thnT k (q pins s k I) fun f s1 k1 h => by
    cases f with
    | next => obtain ⟨σ', H', I', h⟩ := h; exact h pins s1 k1 I'
    | ret v => exact h
    | brk => exact h
    | cont => exact h)
theorem s_ret (q : tW X T e σ H D.rt) : tWS X T (.Return (some e) pos) D σ H := fun pins s k I => wpAny_Return_some (thn (q pins s k I) fun v s1 ⟨x, H1, I1, r1, q1⟩ => ⟨x, σ, H1, I1, r1, q1⟩)
theorem s_expr (hs : swapsWith e none pos.line X.env = pure false) (q : tW X T e σ H fun _ H1 => D.nx σ H1) : tWS X T (.Expr e pos) D σ H := fun pins s k I =>
  wpAny_Expr_any (thn (q pins s k I) fun v s1 ⟨x, H1, I1, r1, q1⟩ => ⟨σ, H1, I1, q1⟩) I.quiet hs
theorem s_if {t : Expr} {p q : List Stmt} (h : tWT X T t σ H fun k H1 => if k = true then tWSs X T p D σ H1 else tWSs X T q D σ H1) : tWS X T (.If t p q pos) D σ H := fun pins s k I =>
  wpAny_If (thnT k (h pins s k I) fun d s1 k1 ⟨H1, I1, q1⟩ => by
    cases d with
    | true => exact q1 pins s1 k1 I1
    | false => exact q1 pins s1 k1 I1)
theorem s_asg (hs : swapsWithSole [tg] e pos.line X.env = pure false) (hw : swappedStores [tg] e X.env = pure none) (h1 : (assignEach [tg] X.env).map (·.2) = [assign tg X.env]) (q : tW X T e σ H fun x H1 => tWG X T tg x σ H1 D.nx) : tWS X T (.Assign [tg] e pos) D σ H := fun pins s k I =>
  wpAny_Assign_stores (thnT k (q pins s k I) fun v s1 k1 ⟨x, H1, I1, r1, q1⟩ => by
    rw [h1]
    exact thn (q1 pins s1 v k1 I1 r1) fun _ s2 q => q) hs hw
theorem s_set {i : Nat} {x : Str} {pos' : Pos} (hN : X.N.Nodup) (hi : X.N[i]? = some x) (hx : Loc X.env.scope x) (hs : swapsWith e (some (.Name x pos')) pos.line X.env = pure false) (hf : X.fn x = true ∨ X.env.scope.names.lookup x = some .local)
    (q : tW X T e σ H fun v H1 => D.nx (σ.set i (some v)) H1) : tWS X T (.Assign [.Name x pos'] e pos) D σ H := fun pins s k I =>
  wpAny_Assign_Name (thn (q pins s k I) fun v s1 ⟨y, H1, I1, r1, q1⟩ => store_ok I1 hN hi hx r1 (fun s2 I2 => ⟨_, H1, I2, q1⟩) hf) hs
end

/-! ### exceptions, ends -/
/-- an exception: its class, its own fields -/
structure Exn where
  C : Addr
  ns : List Str
  ds : List Dat
def DenX (K : PySem.W.Frag) (G H : Hp) (x : Exn) (d : Option Addr) : Prop := (x.ns = [] ∧ x.ds = []) ∨ ∃ dd vs, d = some dd ∧ G dd = some (.xd (x.ns.zip vs)) ∧ DenL K G x.ds vs
inductive Out where
  | nx (τ : TEnv) | rt (d : Dat) | bk (τ : TEnv) | ct (τ : TEnv) | ex (x : Exn) (τ : TEnv)
abbrev RK := Out → Mem → Prop
abbrev PK' := Dat → Mem → Prop
abbrev XKx := Exn → Mem → Prop
section
variable (K : PySem.W.Frag)
def CE' (G : Hp) (M : Mem) (H : Hp) (P : PK') (Q : VK) : Prop := ∀ d M2 v G2 H2, P d M2 → Stp G M H G2 M2 H2 → Hst K G2 M2 H2 → Den K G2 d v → Q v H2
def CT' (G : Hp) (M : Mem) (H : Hp) (P : Bool → Mem → Prop) (Q : Bool → Hp → Prop) : Prop := ∀ b M2 G2 H2, P b M2 → Stp G M H G2 M2 H2 → Hst K G2 M2 H2 → Q b H2
def CA' (G : Hp) (M : Mem) (H : Hp) (P : List Dat → Mem → Prop) (Q : List V → Hp → Prop) : Prop := ∀ ds M2 vs G2 H2, P ds M2 → Stp G M H G2 M2 H2 → Hst K G2 M2 H2 → DenL K G2 ds vs → Q vs H2
def CX' (G : Hp) (M : Mem) (H : Hp) (E : XKx) (T : Value → Option Addr → Hp → Prop) : Prop := ∀ x M2 G2 H2 d, E x M2 → Stp G M H G2 M2 H2 → Hst K G2 M2 H2 → DenX K G2 H2 x d → T (.ref x.C) d H2
def OutOk (G2 H2 : Hp) (D : Ends) (W : WX) : Out → Prop
  | .nx τ => ∀ σ, DenE K τ G2 σ → D.nx σ H2
  | .rt d => ∀ v, Den K G2 d v → D.rt v H2
  | .bk τ => ∀ σ, DenE K τ G2 σ → D.bk σ H2
  | .ct τ => ∀ σ, DenE K τ G2 σ → D.ct σ H2
  | .ex x τ => ∀ σ d, DenE K τ G2 σ → DenX K G2 H2 x d → W (.ref x.C) d σ H2
def CS' (G : Hp) (M : Mem) (H : Hp) (R : RK) (D : Ends) (W : WX) : Prop := ∀ o M2 G2 H2, R o M2 → Stp G M H G2 M2 H2 → Hst K G2 M2 H2 → OutOk K G2 H2 D W o
/-- the target of a store -/
def CG' (G : Hp) (M : Mem) (H : Hp) (P : TEnv → Mem → Prop) (Q : L2.St → Hp → Prop) : Prop := ∀ τ M2 G2 H2 σ, P τ M2 → Stp G M H G2 M2 H2 → Hst K G2 M2 H2 → DenE K τ G2 σ → Q σ H2
end
section
variable {K : PySem.W.Frag} {G G1 H H1 : Hp} {M M1 : Mem}
theorem CE'.step {P : PK'} {Q : VK} (c : CE' K G M H P Q) (s : Stp G M H G1 M1 H1) : CE' K G1 M1 H1 P Q := fun d M2 v G2 H2 p s2 h dv => c d M2 v G2 H2 p (s.trans s2) h dv
theorem CT'.step {P : Bool → Mem → Prop} {Q : Bool → Hp → Prop} (c : CT' K G M H P Q) (s : Stp G M H G1 M1 H1) : CT' K G1 M1 H1 P Q := fun d M2 G2 H2 p s2 h => c d M2 G2 H2 p (s.trans s2) h
theorem CA'.step {P : List Dat → Mem → Prop} {Q : List V → Hp → Prop} (c : CA' K G M H P Q) (s : Stp G M H G1 M1 H1) : CA' K G1 M1 H1 P Q := fun d M2 v G2 H2 p s2 h dv => c d M2 v G2 H2 p (s.trans s2) h dv
theorem CX'.step {E : XKx} {T : Value → Option Addr → Hp → Prop} (c : CX' K G M H E T) (s : Stp G M H G1 M1 H1) : CX' K G1 M1 H1 E T := fun x M2 G2 H2 d p s2 h dv => c x M2 G2 H2 d p (s.trans s2) h dv
theorem CS'.step {R : RK} {D : Ends} {W : WX} (c : CS' K G M H R D W) (s : Stp G M H G1 M1 H1) : CS' K G1 M1 H1 R D W := fun o M2 G2 H2 p s2 h => c o M2 G2 H2 p (s.trans s2) h
theorem CG'.step {P : TEnv → Mem → Prop} {Q : L2.St → Hp → Prop} (c : CG' K G M H P Q) (s : Stp G M H G1 M1 H1) : CG' K G1 M1 H1 P Q := fun d M2 v G2 H2 p s2 h dv => c d M2 v G2 H2 p (s.trans s2) h dv
end

/-! ### the judgements: in the slots τ and the cells M, e gives a value and cells that P takes, or lets out what E takes -/
structure EX (X : Cx) (T : Bool) (e : Expr) (τ : TEnv) (M : Mem) (P : PK') (E : XKx) : Prop where
  run : ∀ W, Takes X W → ∀ σ G H, DenE X.K τ G σ → Hst X.K G M H → ∀ Q, CE' X.K G M H P Q → CX' X.K G M H E (fun c d H2 => W c d σ H2) → tW X T e σ H Q
structure ET (X : Cx) (T : Bool) (e : Expr) (τ : TEnv) (M : Mem) (P : Bool → Mem → Prop) (E : XKx) : Prop where
  run : ∀ W, Takes X W → ∀ σ G H, DenE X.K τ G σ → Hst X.K G M H → ∀ Q, CT' X.K G M H P Q → CX' X.K G M H E (fun c d H2 => W c d σ H2) → tWT X T e σ H Q
structure EA (X : Cx) (T : Bool) (es : List Expr) (τ : TEnv) (M : Mem) (P : List Dat → Mem → Prop) (E : XKx) : Prop where
  run : ∀ W, Takes X W → ∀ σ G H, DenE X.K τ G σ → Hst X.K G M H → ∀ Q, CA' X.K G M H P Q → CX' X.K G M H E (fun c d H2 => W c d σ H2) → tWA X T es σ H Q
structure WS (X : Cx) (T : Bool) (ss : List Stmt) (τ : TEnv) (M : Mem) (R : RK) : Prop where
  run : ∀ W, Takes X W → ∀ σ G H, DenE X.K τ G σ → Hst X.K G M H → ∀ D, CS' X.K G M H R D W → tWSs X T ss D σ H
/-- a value is stored at a target -/
structure GX (X : Cx) (T : Bool) (tg : Expr) (d : Dat) (τ : TEnv) (M : Mem) (P : TEnv → Mem → Prop) (E : XKx) : Prop where
  run : ∀ W, Takes X W → ∀ σ G H v, DenE X.K τ G σ → Hst X.K G M H → Den X.K G d v → ∀ Q, CG' X.K G M H P Q → CX' X.K G M H E (fun c d H2 => W c d σ H2) → tWG X T tg v σ H Q
/-- operations by values -/
def OP (X : Cx) (T : Bool) (f : Value → Value → Sem Value) (x y : Dat) (M : Mem) (P : PK') : Prop :=
  ∀ G H v u, Hst X.K G M H → Den X.K G x v → Den X.K G y u → ∀ Q, CE' X.K G M H P Q → rW X T f v u H Q
def BC (X : Cx) (f : Value) (ds : List Dat) (M : Mem) (P : PK') : Prop :=
  ∃ r, CallR X f r ∧ ∀ G H vs, Hst X.K G M H → DenL X.K G ds vs → ∀ Q, CE' X.K G M H P Q → r vs H Q
abbrev E0' : XKx := fun _ _ => False
theorem noX {K : PySem.W.Frag} {G H : Hp} {M : Mem} {T : Value → Option Addr → Hp → Prop} : CX' K G M H E0' T := fun _ _ _ _ _ h => h.elim

section
variable {X : Cx} {T : Bool} {τ : TEnv} {M : Mem} {P : PK'} {E : XKx} {e a b c : Expr} {es : List Expr} {pos : Pos}
/-- weakening -/
theorem EX.imp {P' : PK'} {E' : XKx} (h : EX X T e τ M P' E') (hp : ∀ d M2, P' d M2 → P d M2) (hx : ∀ x M2, E' x M2 → E x M2) : EX X T e τ M P E :=
  .mk fun W tk σ G H hE hH Q hP hX => h.run W tk σ G H hE hH Q (fun d M2 v G2 H2 p => hP d M2 v G2 H2 (hp _ _ p)) (fun x M2 G2 H2 d p => hX x M2 G2 H2 d (hx _ _ p))
theorem EX.nox (h : EX X T e τ M P E0') : EX X T e τ M P E := h.imp (fun _ _ p => p) fun _ _ p => p.elim
theorem ET.nox {P : Bool → Mem → Prop} (h : ET X T e τ M P E0') : ET X T e τ M P E := .mk fun W tk σ G H hE hH Q hP _ => h.run W tk σ G H hE hH Q hP noX
/-! ### names and constants -/
theorem ex_at {i : Nat} {x : Str} {d : Dat} (hN : X.N[i]? = some x) (hv : Vis X.env.scope x) (ht : τ[i]? = some (some d)) (h : P d M) (hd : (x == ("__debug__" : Str)) = false := by decide) (hcd : (x == ("__classdict__" : Str)) = false := by decide) :
    EX X T (.Name x pos) τ M P E := .mk fun W tk σ G H hE hH Q hP hX => by
  obtain ⟨v, h1, h2⟩ := hE i d ht
  exact tW_of (pe_var hN hv hd hcd) ⟨v, h1, hP d M v G H h Stp.refl hH h2⟩
/-- the place of a name -/
def ixIn (N : List Str) (x : Str) : Nat := N.findIdx (· == x)
theorem ex_var {x : Str} {d : Dat} (ht : X.N[ixIn X.N x]? = some x ∧ τ[ixIn X.N x]? = some (some d)) (h : P d M) (hv : Vis X.env.scope x := by first | exact Or.inl rfl | exact Or.inr (Or.inl rfl) | exact Or.inr (Or.inr rfl))
    (hd : (x == ("__debug__" : Str)) = false := by decide) (hcd : (x == ("__classdict__" : Str)) = false := by decide) : EX X T (.Name x pos) τ M P E := ex_at ht.1 hv ht.2 h hd hcd
theorem ex_c {v : V} {d : Dat} (hp : PE X e (tC v)) (hd : ∀ G, Den X.K G d v) (h : P d M) : EX X T e τ M P E := .mk fun W tk σ G H hE hH Q hP hX => tW_of hp (hP d M v G H h Stp.refl hH (hd G))
theorem ex_int {i j pos} (h : P (.int i) M) : EX X T (.Constant (.int i) j pos) τ M P E := ex_c pe_int (fun _ => den_int) h
theorem ex_bl {i j pos} (h : P (.bl i) M) : EX X T (.Constant (.bool i) j pos) τ M P E := ex_c pe_bl (fun _ => den_bl) h
theorem ex_non {j pos} (h : P .non M) : EX X T (.Constant .none j pos) τ M P E := ex_c pe_non (fun _ => den_non) h
theorem ex_str {i j pos} (h : P (.str i) M) : EX X T (.Constant (.str i) j pos) τ M P E := ex_c pe_str (fun _ => den_str) h
theorem ex_gstr {x : Str} {z : Str} {t : Tok} (hm : X.mg x = some (.str z t)) (h : P (.str z) M) (hg : Gl X x := by rfl) (hd : (x == ("__debug__" : Str)) = false := by decide) : EX X T (.Name x pos) τ M P E := ex_c (pe_glob (v := .str z) hg hm ⟨t, rfl⟩ hd) (fun _ => den_str) h
theorem ex_gref {x : Str} {q : Addr} (hm : X.mg x = some (.ref q)) (h : P (.raw (.ref q)) M) (hg : Gl X x := by rfl) (hd : (x == ("__debug__" : Str)) = false := by decide) : EX X T (.Name x pos) τ M P E := ex_c (pe_glob (v := .ref q) hg hm rfl hd) (fun _ => den_raw) h

/-! ### operators -/
theorem ex_bin {op : Operator} (h : EX X T a τ M (fun x M1 => EX X T b τ M1 (fun y M2 => OP X T (binaryOp op) x y M2 P) E) E) : EX X T (.BinOp a op b pos) τ M P E := by
  refine .mk ?_; intro W tk σ G H hE hH Q hP hX
  refine w_bin ?_
  refine h.run W tk σ G H hE hH _ ?_ hX
  intro x M1 v G1 H1 hb s1 h1 dx
  refine hb.run W tk σ G1 H1 (hE.up s1.gg) h1 _ ?_ (hX.step s1)
  intro y M2 u G2 H2 ho s2 h2 dy
  exact ho G2 H2 v u h2 (dx.up s2.gg) dy Q (hP.step (s1.trans s2))
theorem ex_cmp {op : CmpOp} (h : EX X T a τ M (fun x M1 => EX X T b τ M1 (fun y M2 => OP X T (compareOp op) x y M2 P) E) E) (hm : behindInMarks op b = false := by first | exact nomark _ | rfl) : EX X T (.Compare a [op] [b] pos) τ M P E := by
  refine .mk ?_; intro W tk σ G H hE hH Q hP hX
  refine w_cmp hm ?_
  refine h.run W tk σ G H hE hH _ ?_ hX
  intro x M1 v G1 H1 hb s1 h1 dx
  refine hb.run W tk σ G1 H1 (hE.up s1.gg) h1 _ ?_ (hX.step s1)
  intro y M2 u G2 H2 ho s2 h2 dy
  exact ho G2 H2 v u h2 (dx.up s2.gg) dy Q (hP.step (s1.trans s2))
theorem op_of {f : Value → Value → Sem Value} {r : R2} {x y : Dat} (ho : OpR X f r) (h : ∀ G H v u, Hst X.K G M H → Den X.K G x v → Den X.K G y u → ∀ Q, CE' X.K G M H P Q → r v u H Q) : OP X T f x y M P :=
  fun G H v u hH dx dy Q hP => rW_of ho (h G H v u hH dx dy Q hP)
theorem op_II {f : Value → Value → Sem Value} {g : Int → Int → V} {i j : Int} {d : Dat} (ho : OpR X f (rI0 g)) (hd : ∀ G, Den X.K G d (g i j)) (h : P d M) : OP X T f (.int i) (.int j) M P :=
  op_of ho fun G H v u hH dx dy Q hP => ⟨i, j, dx.int_inv, dy.int_inv, hP _ _ _ _ _ h Stp.refl hH (hd G)⟩
theorem op_IIc {f : Value → Value → Sem Value} {C : Int → Int → Prop} {g : Int → Int → V} {i j : Int} {d : Dat} (ho : OpR X f (rI C g)) (hc : C i j) (hd : ∀ G, Den X.K G d (g i j)) (h : P d M) : OP X T f (.int i) (.int j) M P :=
  op_of ho fun G H v u hH dx dy Q hP => ⟨i, j, dx.int_inv, dy.int_inv, hc, hP _ _ _ _ _ h Stp.refl hH (hd G)⟩
theorem o_add {i j : Int} (h : P (.int (i + j)) M) : OP X T (binaryOp .Add) (.int i) (.int j) M P := op_II op_add (fun _ => den_int) h
theorem o_sub {i j : Int} (h : P (.int (i - j)) M) : OP X T (binaryOp .Sub) (.int i) (.int j) M P := op_II op_sub (fun _ => den_int) h
theorem o_lt {i j : Int} (h : P (.bl (decide (i < j))) M) : OP X T (compareOp .Lt) (.int i) (.int j) M P := op_II op_lt (fun _ => den_bl) h
theorem o_le {i j : Int} (h : P (.bl (decide (i ≤ j))) M) : OP X T (compareOp .LtE) (.int i) (.int j) M P := op_II op_le (fun _ => den_bl) h
theorem o_gt {i j : Int} (h : P (.bl (decide (j < i))) M) : OP X T (compareOp .Gt) (.int i) (.int j) M P := op_II op_gt (fun _ => den_bl) h
theorem o_ge {i j : Int} (h : P (.bl (decide (j ≤ i))) M) : OP X T (compareOp .GtE) (.int i) (.int j) M P := op_II op_ge (fun _ => den_bl) h

/-! ### tests -/
theorem et_val {Pb : Bool → Mem → Prop} (h : EX X T e τ M (fun d M1 => ∃ k, d = .bl k ∧ Pb k M1) E) (he : ∀ whole, isTrue e X.env whole = (do let v ← whole; standAt e.pos; holding [v] (truthy v)) := by intro _; rfl) : ET X T e τ M Pb E := by
  refine .mk ?_; intro W tk σ G H hE hH Q hP hX
  refine w_val he ?_
  refine h.run W tk σ G H hE hH _ ?_ hX
  intro d M1 v G1 H1 ⟨k, ek, hk⟩ s1 h1 dv
  subst ek
  exact ⟨k, dv.bl_inv, hP k M1 G1 H1 hk s1 h1⟩
theorem et_cmp {op : CmpOp} {Pb : Bool → Mem → Prop} (h : EX X T a τ M (fun x M1 => EX X T b τ M1 (fun y M2 => OP X T (compareOp op) x y M2 fun d M3 => ∃ k, d = .bl k ∧ Pb k M3) E) E) (hm : behindInMarks op b = false := by first | exact nomark _ | rfl) :
    ET X T (.Compare a [op] [b] pos) τ M Pb E := by
  refine .mk ?_; intro W tk σ G H hE hH Q hP hX
  refine w_cmpT hm ?_
  refine h.run W tk σ G H hE hH _ ?_ hX
  intro x M1 v G1 H1 hb s1 h1 dx
  refine hb.run W tk σ G1 H1 (hE.up s1.gg) h1 _ ?_ (hX.step s1)
  intro y M2 u G2 H2 ho s2 h2 dy
  refine ho G2 H2 v u h2 (dx.up s2.gg) dy _ ?_
  intro d M3 w G3 H3 ⟨k, ek, hk⟩ s3 h3 dw
  subst ek
  exact ⟨k, dw.bl_inv, hP k M3 G3 H3 hk ((s1.trans s2).trans s3) h3⟩
theorem et_not {Pb : Bool → Mem → Prop} (h : ET X T a τ M (fun k M1 => Pb (!k) M1) E) : ET X T (.UnaryOp .Not a pos) τ M Pb E := by
  refine .mk ?_; intro W tk σ G H hE hH Q hP hX
  refine w_not ?_
  refine h.run W tk σ G H hE hH _ ?_ hX
  intro k M1 G1 H1 hk s1 h1
  exact hP _ M1 G1 H1 hk s1 h1
/-- and, or: the rest -/
structure EW (X : Cx) (T : Bool) (e : Expr) (τ : TEnv) (M : Mem) (P : Bool → Mem → Prop) (E : XKx) : Prop where
  run : ∀ W, Takes X W → ∀ σ G H, DenE X.K τ G σ → Hst X.K G M H → ∀ Q, CT' X.K G M H P Q → CX' X.K G M H E (fun c d H2 => W c d σ H2) → tWW X T e σ H Q
theorem ew_or1 {Pb : Bool → Mem → Prop} (h : ET X T a τ M Pb E) : EW X T (.BoolOp .Or [a] pos) τ M Pb E := .mk fun W tk σ G H hE hH Q hP hX => w_or1 (h.run W tk σ G H hE hH Q hP hX)
theorem ew_or {Pb : Bool → Mem → Prop} {rest : List Expr} (h : ET X T a τ M (fun k M1 => (k = true → Pb true M1) ∧ (k = false → EW X T (.BoolOp .Or (b :: rest) pos) τ M1 Pb E)) E) : EW X T (.BoolOp .Or (a :: b :: rest) pos) τ M Pb E := by
  refine .mk ?_; intro W tk σ G H hE hH Q hP hX
  refine w_or ?_
  refine h.run W tk σ G H hE hH _ ?_ hX
  intro k M1 G1 H1 ⟨h1, h2⟩ s1 hs1
  cases k with
  | true => exact iteT (hP _ _ _ _ (h1 rfl) s1 hs1)
  | false => exact iteF ((h2 rfl).run W tk σ G1 H1 (hE.up s1.gg) hs1 Q (hP.step s1) (hX.step s1))
theorem et_w {Pb : Bool → Mem → Prop} (h : EW X T e τ M Pb E) : ET X T e τ M Pb E := .mk fun W tk σ G H hE hH Q hP hX => by
  have := h.run W tk σ G H hE hH Q hP hX
  exact fun pins s k I => this _ pins s k I
theorem ET.imp {P P' : Bool → Mem → Prop} {E' : XKx} (h : ET X T e τ M P' E') (hp : ∀ d M2, P' d M2 → P d M2) (hx : ∀ x M2, E' x M2 → E x M2) : ET X T e τ M P E :=
  .mk fun W tk σ G H hE hH Q hP hX => h.run W tk σ G H hE hH Q (fun d M2 G2 H2 p => hP d M2 G2 H2 (hp _ _ p)) (fun x M2 G2 H2 d p => hX x M2 G2 H2 d (hx _ _ p))
/-- as values -/
theorem ex_and1 {op} (h : EX X T a τ M P E) : EX X T (.BoolOp op [a] pos) τ M P E := .mk fun W tk σ G H hE hH Q hP hX => v_one (h.run W tk σ G H hE hH Q hP hX)
theorem ex_and {rest : List Expr} (h : EX X T a τ M (fun d M1 => ∃ k, d = .bl k ∧ (k = true → EX X T (.BoolOp .And (b :: rest) pos) τ M1 P E) ∧ (k = false → P (.bl false) M1)) E) : EX X T (.BoolOp .And (a :: b :: rest) pos) τ M P E := by
  refine .mk ?_; intro W tk σ G H hE hH Q hP hX
  refine v_and ?_
  refine h.run W tk σ G H hE hH _ ?_ hX
  intro d M1 v G1 H1 ⟨k, ek, h1, h2⟩ s1 hs1 dv
  subst ek
  refine ⟨k, dv.bl_inv, ?_⟩
  cases k with
  | true => exact iteT ((h1 rfl).run W tk σ G1 H1 (hE.up s1.gg) hs1 Q (hP.step s1) (hX.step s1))
  | false => exact iteF (hP _ _ _ _ _ (h2 rfl) s1 hs1 den_bl)
theorem ex_not (h : EX X T a τ M (fun d M1 => ∃ k, d = .bl k ∧ P (.bl (!k)) M1) E) : EX X T (.UnaryOp .Not a pos) τ M P E := by
  refine .mk ?_; intro W tk σ G H hE hH Q hP hX
  refine v_not ?_
  refine h.run W tk σ G H hE hH _ ?_ hX
  intro d M1 v G1 H1 ⟨k, ek, h1⟩ s1 hs1 dv
  subst ek
  exact ⟨k, dv.bl_inv, hP _ _ _ _ _ h1 s1 hs1 den_bl⟩
theorem ex_if {t : Expr} (h : ET X T t τ M (fun k M1 => (k = true → EX X T a τ M1 P E) ∧ (k = false → EX X T b τ M1 P E)) E) : EX X T (.IfExp t a b pos) τ M P E := by
  refine .mk ?_; intro W tk σ G H hE hH Q hP hX
  refine v_if ?_
  refine h.run W tk σ G H hE hH _ ?_ hX
  intro k M1 G1 H1 ⟨h1, h2⟩ s1 hs1
  cases k with
  | true => exact iteT ((h1 rfl).run W tk σ G1 H1 (hE.up s1.gg) hs1 Q (hP.step s1) (hX.step s1))
  | false => exact iteF ((h2 rfl).run W tk σ G1 H1 (hE.up s1.gg) hs1 Q (hP.step s1) (hX.step s1))

/-! ### arguments, displays -/
theorem ea_nil {P : List Dat → Mem → Prop} (h : P [] M) : EA X T [] τ M P E := .mk fun W tk σ G H hE hH Q hP hX => tWA_of pa_nil (hP _ _ _ _ _ h Stp.refl hH .nil)
theorem ea_cons {P : List Dat → Mem → Prop} (h : EX X T e τ M (fun d M1 => EA X T es τ M1 (fun ds M2 => P (d :: ds) M2) E) E) (hs : starEach (e :: es) X.env = (false, eval e X.env) :: starEach es X.env := by rfl) : EA X T (e :: es) τ M P E := by
  refine .mk ?_; intro W tk σ G H hE hH Q hP hX
  refine wa_cons hs ?_
  refine h.run W tk σ G H hE hH _ ?_ hX
  intro d M1 v G1 H1 hb s1 h1 dv
  refine hb.run W tk σ G1 H1 (hE.up s1.gg) h1 _ ?_ (hX.step s1)
  intro ds M2 vs G2 H2 ho s2 h2 dvs
  exact hP (d :: ds) M2 (v :: vs) G2 H2 ho (s1.trans s2) h2 (.cons (dv.up s2.gg) dvs)
theorem v_tup {x1} {σ : L2.St} {H : Hp} {Q : VK} (q : tWA X T es σ H fun xs H1 => xs.length ≤ sizeLine ∧ ∀ p, H1 p = none → Q (.ref p) (upd H1 p (.tup xs))) : tW X T (.Tuple es x1 pos) σ H Q := fun pins s k I =>
  wpAny_Tuple_spliced (thn (q pos pins s k I) fun us s1 ⟨xs, H1, I1, r, z, q1⟩ => ⟨by rw [← r.length]; exact z, by
    have hf : H1 s1.heap.objs.size = none := I1.hok.fresh (Nat.le_refl _)
    exact ⟨.ref s1.heap.objs.size, upd H1 s1.heap.objs.size (.tup xs), I1.laid (t' := s1.toks) (fun b u e => Heap.get?_push_of_some _ e) (Nat.le_refl _) ⟨z, us, r, ⟨_, Heap.get?_push_size _ rfl, rfl, _, rfl⟩⟩, rfl, q1 _ hf⟩⟩)
theorem v_lst {σ : L2.St} {H : Hp} {Q : VK} (q : tWA X T es σ H fun xs H1 => xs.length ≤ sizeLine ∧ ∀ p, H1 p = none → Q (.ref p) (upd H1 p (.lst xs))) : tW X T (.List es pos) σ H Q := fun pins s k I =>
  wpAny_List_spliced (thn (q pos pins s k I) fun us s1 ⟨xs, H1, I1, r, z, q1⟩ => ⟨by rw [← r.length]; exact z, by
    have hf : H1 s1.heap.objs.size = none := I1.hok.fresh (Nat.le_refl _)
    exact ⟨.ref s1.heap.objs.size, upd H1 s1.heap.objs.size (.lst xs), I1.laid (t' := s1.toks) (fun b u e => Heap.get?_push_of_some _ e) (Nat.le_refl _) ⟨z, us, 0, r, Heap.get?_push_size _ rfl⟩, rfl, q1 _ hf⟩⟩)
theorem ex_tup {x1} (h : EA X T es τ M (fun ds M1 => ds.length ≤ sizeLine ∧ P (.tup ds) M1) E) : EX X T (.Tuple es x1 pos) τ M P E := by
  refine .mk ?_; intro W tk σ G H hE hH Q hP hX
  refine v_tup ?_
  refine h.run W tk σ G H hE hH _ ?_ hX
  intro ds M1 vs G1 H1 ⟨hl, hp⟩ s1 h1 dvs
  refine ⟨by rw [dvs.length]; exact hl, fun p hp' => ?_⟩
  obtain ⟨s2, h2⟩ := Stp.new (o := .tup vs) h1 hp'
  exact hP _ _ _ _ _ hp (s1.trans s2) h2 (den_tup upd_same (dvs.up s2.gg))
theorem ex_lst (h : EA X T es τ M (fun ds M1 => ds.length ≤ sizeLine ∧ P (.lst ds) M1) E) : EX X T (.List es pos) τ M P E := by
  refine .mk ?_; intro W tk σ G H hE hH Q hP hX
  refine v_lst ?_
  refine h.run W tk σ G H hE hH _ ?_ hX
  intro ds M1 vs G1 H1 ⟨hl, hp⟩ s1 h1 dvs
  refine ⟨by rw [dvs.length]; exact hl, fun p hp' => ?_⟩
  obtain ⟨s2, h2⟩ := Stp.new (o := .lst vs) h1 hp'
  exact hP _ _ _ _ _ hp (s1.trans s2) h2 (den_lst upd_same (dvs.up s2.gg))
/-! ### calls of built-ins -/
theorem ex_callB {x : Str} {p : Pos} {id : String} (hm : X.mg x = none) (hv : bootBuiltins x = some (.builtin id)) (h : EA X T (e :: es) τ M (fun ds M1 => BC X (.builtin id) ds M1 P) E) (hg : Gl X x := by rfl) (hn : x ≠ "__name__" := by decide) (hdb : (x == ("__debug__" : Str)) = false := by decide)
    (he : starEach (e :: es) X.env = (false, eval e X.env) :: starEach es X.env := by rfl) (hpl : (backTo pos (starEach es X.env)).any (·.1) = false := by rfl) : EX X T (.Call (.Name x p) (e :: es) [] pos) τ M P E := by
  refine .mk ?_; intro W tk σ G H hE hH Q hP hX pins s k I
  have hA := h.run W tk σ G H hE hH (fun vs H1 => ∃ r, CallR X (.builtin id) r ∧ r vs H1 Q) (fun ds M1 vs G1 H1 ⟨r, hr, hb⟩ s1 h1 dvs => ⟨r, hr, hb G1 H1 vs h1 dvs Q (hP.step s1)⟩) hX
  refine wpAny_Call_Name_kw (ld_blt I hg hm hv ?_ hn hdb)
  exact PyProof.Rows.callWith_builtin1 (thn (hA pos pins s k I) fun us s1 ⟨vs, H1, I1, r1, r, hr, q1⟩ => hr pins s1 σ H1 vs us Q I1 r1 q1) he hpl
theorem ex_callTy {x : Str} {p : Pos} {T' : String} (hm : X.mg x = none) (hv : bootBuiltins x = some (.type T')) (h : EA X T (e :: es) τ M (fun ds M1 => BC X (.type T') ds M1 P) E) (hg : Gl X x := by rfl) (hn : x ≠ "__name__" := by decide) (hdb : (x == ("__debug__" : Str)) = false := by decide)
    (he : starEach (e :: es) X.env = (false, eval e X.env) :: starEach es X.env := by rfl) (hpl : (backTo pos (starEach es X.env)).any (·.1) = false := by rfl) : EX X T (.Call (.Name x p) (e :: es) [] pos) τ M P E := by
  refine .mk ?_; intro W tk σ G H hE hH Q hP hX pins s k I
  have hA := h.run W tk σ G H hE hH (fun vs H1 => ∃ r, CallR X (.type T') r ∧ r vs H1 Q) (fun ds M1 vs G1 H1 ⟨r, hr, hb⟩ s1 h1 dvs => ⟨r, hr, hb G1 H1 vs h1 dvs Q (hP.step s1)⟩) hX
  refine wpAny_Call_Name_kw (ld_blt I hg hm hv ?_ hn hdb)
  exact PyProof.Rows.callWith_type1 (thn (hA pos pins s k I) fun us s1 ⟨vs, H1, I1, r1, r, hr, q1⟩ => hr pins s1 σ H1 vs us Q I1 r1 q1) he hpl
end

/-! ### statements -/
/-- what follows the statements of a suite -/
def thenR (k : TEnv → Mem → Prop) (R : RK) : RK
  | .nx τ, M => k τ M
  | o, M => R o M
/-- a loop's body -/
def loopR (N k : TEnv → Mem → Prop) (R : RK) : RK
  | .nx τ, M => N τ M
  | .ct τ, M => N τ M
  | .bk τ, M => k τ M
  | .rt d, M => R (.rt d) M
  | .ex x τ, M => R (.ex x τ) M
section
variable {X : Cx} {T : Bool} {τ : TEnv} {M : Mem} {R : RK} {e a b c : Expr} {es : List Expr} {pos : Pos} {rest : List Stmt}
theorem ex_out {K : PySem.W.Frag} {G H : Hp} {D : Ends} {W : WX} {σ : L2.St} (hP : CS' K G M H R D W) (hE : DenE K τ G σ) : CX' K G M H (fun x M' => R (.ex x τ) M') (fun c d H2 => W c d σ H2) :=
  fun x M2 G2 H2 d r s h dx => hP _ _ _ _ r s h σ d (hE.up s.gg) dx
theorem ws_nil (h : R (.nx τ) M) : WS X T [] τ M R := .mk fun W tk σ G H hE hH D hR => tWSs_of pss_nil (hR _ _ _ _ h Stp.refl hH σ hE)
/-- a statement by its own rule, the rest behind it -/
theorem ws_step {st : Stmt} {t : TS} {D : Ends} {σ : L2.St} {H : Hp} (h : PS X st t) (q : t { D with nx := tWSs X T rest D } σ H) : tWSs X T (st :: rest) D σ H := ws_step' (tWS_of h q)
theorem ws_break (h : R (.bk τ) M) : WS X T (.Break pos :: rest) τ M R := .mk fun W tk σ G H hE hH D hR => ws_step ps_break (hR _ _ _ _ h Stp.refl hH σ hE)
theorem ws_ret (h : EX X T e τ M (fun d M1 => R (.rt d) M1) (fun x M1 => R (.ex x τ) M1)) : WS X T (.Return (some e) pos :: rest) τ M R := .mk fun W tk σ G H hE hH D hR =>
  ws_step' (s_ret <| h.run W tk σ G H hE hH _ (fun d M2 v G2 H2 r s h2 dv => hR _ _ _ _ r s h2 v dv) (ex_out hR hE))
theorem ws_expr (h : EX X T e τ M (fun _ M1 => WS X T rest τ M1 R) (fun x M1 => R (.ex x τ) M1)) (hs : swapsWith e none pos.line X.env = pure false := by rfl) : WS X T (.Expr e pos :: rest) τ M R := .mk fun W tk σ G H hE hH D hR =>
  ws_step' (s_expr hs <| h.run W tk σ G H hE hH _ (fun d M2 v G2 H2 r s h2 dv => r.run W tk σ G2 H2 (hE.up s.gg) h2 D (hR.step s)) (ex_out hR hE))
/-- x = e -/
theorem ws_set {x : Str} {p : Pos} (h : EX X T e τ M (fun d M1 => WS X T rest (τ.set (ixIn X.N x) (some d)) M1 R) (fun x M1 => R (.ex x τ) M1)) (hi : X.N[ixIn X.N x]? = some x := by rfl) (hx : Loc X.env.scope x := by first | exact Or.inl rfl | exact Or.inr rfl) (hN : X.N.Nodup := by first | decide +kernel | exact of_decide_eq_true (by kernel_rfl))
    (hs : swapsWith e (some (.Name x p)) pos.line X.env = pure false := by rfl) (hf : X.fn x = true ∨ X.env.scope.names.lookup x = some .local := by first | exact .inl rfl | exact .inr rfl | assumption) : WS X T (.Assign [.Name x p] e pos :: rest) τ M R := .mk fun W tk σ G H hE hH D hR => tWSs_len fun hl =>
  ws_step' (s_set hN hi hx hs hf <| h.run W tk σ G H hE hH _ (fun d M2 v G2 H2 r s h2 dv => by
    have hlt : ixIn X.N x < σ.length := by rw [hl]; exact (List.getElem?_eq_some_iff.mp hi).1
    exact r.run W tk _ G2 H2 ((hE.up s.gg).set hlt dv) h2 D (hR.step s)) (ex_out hR hE))
theorem ws_if {t : Expr} {p q : List Stmt} (h : ET X T t τ M (fun k M1 => (k = true → WS X T p τ M1 (thenR (fun τ' M' => WS X T rest τ' M' R) R)) ∧ (k = false → WS X T q τ M1 (thenR (fun τ' M' => WS X T rest τ' M' R) R))) (fun x M1 => R (.ex x τ) M1)) :
    WS X T (.If t p q pos :: rest) τ M R := .mk fun W tk σ G H hE hH D hR => by
  refine ws_step' (s_if ?_)
  refine h.run W tk σ G H hE hH _ ?_ (ex_out hR hE)
  intro k M1 G1 H1 ⟨h1, h2⟩ s1 hs1
  have fin : CS' X.K G1 M1 H1 (thenR (fun τ' M' => WS X T rest τ' M' R) R) { D with nx := tWSs X T rest D } W := fun o M2 G2 H2 r s2 hs2 => by
    cases o with
    | nx τ' => exact fun σ' hE' => r.run W tk σ' G2 H2 hE' hs2 D (hR.step (s1.trans s2))
    | rt d => exact hR _ _ _ _ r (s1.trans s2) hs2
    | bk τ' => exact hR _ _ _ _ r (s1.trans s2) hs2
    | ct τ' => exact hR _ _ _ _ r (s1.trans s2) hs2
    | ex x τ' => exact hR _ _ _ _ r (s1.trans s2) hs2
  cases k with
  | true => exact iteT ((h1 rfl).run W tk σ G1 H1 (hE.up s1.gg) hs1 _ fin)
  | false => exact iteF ((h2 rfl).run W tk σ G1 H1 (hE.up s1.gg) hs1 _ fin)
/-- tg = e, any target -/
theorem ws_asg {tg : Expr} (h : EX X T e τ M (fun d M1 => GX X T tg d τ M1 (fun τ2 M2 => WS X T rest τ2 M2 R) (fun x M2 => R (.ex x τ) M2)) (fun x M1 => R (.ex x τ) M1))
    (hs : swapsWithSole [tg] e pos.line X.env = pure false := by rfl) (hw : swappedStores [tg] e X.env = pure none := by rfl) (h1 : (assignEach [tg] X.env).map (·.2) = [assign tg X.env] := by rfl) : WS X T (.Assign [tg] e pos :: rest) τ M R := .mk fun W tk σ G H hE hH D hR =>
  ws_step' (s_asg hs hw h1 <| h.run W tk σ G H hE hH _ (fun d M2 v G2 H2 r s h2 dv =>
    r.run W tk σ G2 H2 v (hE.up s.gg) h2 dv _ (fun τ3 M3 G3 H3 σ3 r3 s3 h3 e3 => r3.run W tk σ3 G3 H3 e3 h3 D (hR.step (s.trans s3))) ((ex_out hR hE).step s)) (ex_out hR hE))
/-! ### targets -/
theorem gx_name {x : Str} {p : Pos} {d : Dat} {P : TEnv → Mem → Prop} {E : XKx} (h : P (τ.set (ixIn X.N x) (some d)) M) (hi : X.N[ixIn X.N x]? = some x := by rfl) (hx : Loc X.env.scope x := by first | exact Or.inl rfl | exact Or.inr rfl) (hN : X.N.Nodup := by first | decide +kernel | exact of_decide_eq_true (by kernel_rfl))
    (hf : X.fn x = true ∨ X.env.scope.names.lookup x = some .local := by first | exact .inl rfl | exact .inr rfl | assumption) : GX X T (.Name x p) d τ M P E := .mk fun W tk σ G H v hE hH dv Q hP hX => tWG_len fun hl => by
  refine tWG_of (pg_name hN hi hx hf) ?_
  have hlt : ixIn X.N x < σ.length := by rw [hl]; exact (List.getElem?_eq_some_iff.mp hi).1
  exact hP _ _ _ _ _ h Stp.refl hH (hE.set hlt dv)
end
end Kh

set_option Elab.async false
set_option linter.all false
set_option maxRecDepth 100000
set_option maxHeartbeats 1000000
namespace Kh
open PySem PySem.Spec L2
open PyProof.Rows (isTrue_plain)

/-! ### what a def promises -/
/-- the arguments, the cells it is told of; what is wanted of its value and the cells behind it; of what it lets out -/
abbrev Spc := List Dat → Mem → PK' → XKx → Prop
def toSp (K : PySem.W.Frag) (S : Spc) : Sp := fun vs H Q E => ∃ G ds M P PE, DenL K G ds vs ∧ Hst K G M H ∧ S ds M P PE ∧ CE' K G M H P Q ∧ CX' K G M H PE E
abbrev FnD (P : Program) (w : World) (K : PySem.W.Frag) (mg : Str → Option Value) (base : Heap) (k : Nat) (f : Addr) (fd : FuncData) (ps : List Str) (S : Spc) : Prop := FnOk P w K mg base (L2.CX P w) k f fd ps (toSp K S)
/-- a part of the cells is handed to the def, the rest stays -/
def AP (S : Spc) (ds : List Dat) (M : Mem) (P : PK') (E : XKx) : Prop :=
  ∃ Mc Mr, M.Perm (Mc ++ Mr) ∧ S ds Mc (fun d Mc2 => ∃ M2, (Mc2 ++ Mr).Perm M2 ∧ P d M2) (fun x Mc2 => ∃ M2, (Mc2 ++ Mr).Perm M2 ∧ E x M2)
theorem ap_toSp {K : PySem.W.Frag} {S : Spc} {ds : List Dat} {M : Mem} {P : PK'} {E : XKx} {G H : Hp} {vs : List V} {Q : VK} {T : XK} (h : AP S ds M P E) (dv : DenL K G ds vs) (hH : Hst K G M H) (hP : CE' K G M H P Q) (hX : CX' K G M H E T) : toSp K S vs H Q T := by
  obtain ⟨Mc, Mr, pm, hs⟩ := h
  have hH' := hH.perm pm
  refine ⟨G, ds, Mc, _, _, dv, hH'.left, hs, ?_, ?_⟩
  · intro d Mc2 v G2 H2 ⟨M2, p2, hp⟩ s h2 dd
    obtain ⟨s3, h3⟩ := Stp.frame hH' s h2
    exact hP d M2 v G2 H2 hp (s3.perm pm.symm p2) (h3.perm p2) dd
  · intro x Mc2 G2 H2 d ⟨M2, p2, hp⟩ s h2 dd
    obtain ⟨s3, h3⟩ := Stp.frame hH' s h2
    exact hX x M2 G2 H2 d hp (s3.perm pm.symm p2) (h3.perm p2) dd

/-- the ends of a def -/
def retR (P : PK') (E : XKx) : RK
  | .rt d, M => P d M
  | .nx _, M => P .non M
  | .ex x _, M => E x M
  | _, _ => False
def startT (N : List Str) (ds : List Dat) : TEnv := ds.map some ++ List.replicate (N.length - ds.length) none
theorem denE_start {K : PySem.W.Frag} {G : Hp} {N : List Str} {ds : List Dat} {vs : List V} (h : DenL K G ds vs) : DenE K (startT N ds) G (L2.start N vs) := fun i d e => by
  unfold startT at e
  have hi : i < ds.length := by
    by_cases hi : i < ds.length
    · exact hi
    · rw [List.getElem?_append_right (by simpa using hi), List.getElem?_replicate] at e
      split at e <;> cases e
  rw [List.getElem?_append_left (by simpa using hi), List.getElem?_map] at e
  cases q : ds[i]? with
  | none => rw [q] at e; cases e
  | some d' =>
    rw [q] at e; cases e
    obtain ⟨v, h1, h2⟩ := h.get q
    refine ⟨v, ?_, h2⟩
    unfold L2.start
    rw [List.getElem?_append_left (by rw [List.length_map, h.length]; exact hi), List.getElem?_map, h1]
    rfl
theorem cs_ret {K : PySem.W.Frag} {G H : Hp} {M : Mem} {P : PK'} {E : XKx} {Q : VK} {W : WX} (hP : CE' K G M H P Q) (hX : CX' K G M H E (fun c d H2 => ∀ σ, W c d σ H2)) : CS' K G M H (retR P E) { nx := fun _ H' => Q .non H', rt := Q } W := fun o M2 G2 H2 r s h => by
  cases o with
  | nx τ => exact fun σ _ => hP _ _ _ _ _ r s h den_non
  | rt d => exact fun v dv => hP _ _ _ _ _ r s h dv
  | bk τ => exact r.elim
  | ct τ => exact r.elim
  | ex x τ => exact fun σ d _ dx => hX _ _ _ _ _ r s h dx σ
section
variable {P : Program} {w : World} {K : PySem.W.Frag} {mg : Str → Option Value} {base : Heap}
/-- binding parameters, one of them a local: a token is out behind it -/
theorem bind_toks {M : Model} {A : Around} {E : Value → Shared → Prop} {s₀ : Shared} {env : Env} (f : Str × Value → PUnit → Sem (ForInStep PUnit)) (hf : ∀ n v u, f (n, v) u = (do storeName env n v; pure (.yield ⟨⟩))) (hk : env.scope.kind = .function) :
    ∀ (bs : List (Str × Value)) (m cm : Str → Option Value) (s : Shared) (Q : PUnit → Shared → Prop), InCallC s₀ env.locals m env.cells cm s →
      (∀ x ∈ bs, env.kindOf x.1 = some .local ∨ (env.kindOf x.1 = some .cell ∧ (env.cells.lookup x.1).isSome = true)) → (∃ x ∈ bs, env.kindOf x.1 = some .local) →
      (∀ s', 1 ≤ s'.toks → InCallC s₀ env.locals (bindL env.kindOf bs m) env.cells (bindC env.kindOf bs cm) s' → Q ⟨⟩ s') → wpAny M A (forIn bs ⟨⟩ f) Q E s
  | [], m, cm, s, Q, x, _, ⟨y, hy, _⟩, h => by cases hy
  | (n, v) :: r, m, cm, s, Q, x, kinds, he, h => by
    rw [List.forIn_cons, hf]
    have kr : ∀ y ∈ r, env.kindOf y.1 = some .local ∨ (env.kindOf y.1 = some .cell ∧ (env.cells.lookup y.1).isSome = true) := fun y hy => kinds y (List.mem_cons_of_mem _ hy)
    rcases kinds (n, v) List.mem_cons_self with hl | ⟨hl, hc⟩
    · refine wpAny_bind (wpAny_bind (wpAny_storeName_local hl x.toInCall.ns (fun h' hn' hs' => wpAny_pure ?_) (by rw [hk]; rfl)))
      have x' : InCallC s₀ env.locals (fun y => if y = n then some v else m y) env.cells cm { s with heap := h', toks := s.toks + 1 } := by
        refine ⟨⟨?_, hn', fun b o e => ?_, x.toInCall.fresh⟩, fun k c hc => ?_, x.apart, x.above⟩
        · obtain ⟨h₁, tk, rfl⟩ := x.toInCall.same
          exact ⟨h', _, rfl⟩
        · exact hs'.extBut b o (Nat.ne_of_lt (Nat.lt_of_lt_of_le (Heap.lt_size e) x.toInCall.fresh)) (x.toInCall.keep b o e)
        · exact (x.cell k c hc).sameBut hs' (Nat.ne_of_gt (x.above k c (mem_of_lookup hc)))
      refine wpAny_with_toks (n := 1) (show 1 ≤ s.toks + 1 by omega) ?_
      refine wpAny_mono (E := fun e s' => E e s') (wpAny_bindParams f hf hk r _ _ _ (fun u s'' => 1 ≤ s''.toks → Q u s'') x' kr fun s'' x'' k => h s'' k ?_) (fun _ _ q => q) fun _ _ q _ => q
      unfold bindL bindC; rw [if_pos hl, if_pos hl]; exact x''
    · obtain ⟨c, hc⟩ := Option.isSome_iff_exists.mp hc
      have hnl : ¬ env.kindOf n = some .local := by rw [hl]; decide
      have hr : ∃ y ∈ r, env.kindOf y.1 = some .local := by
        obtain ⟨y, hy, hy2⟩ := he
        rcases List.mem_cons.mp hy with rfl | hy
        · exact absurd hy2 hnl
        · exact ⟨y, hy, hy2⟩
      refine wpAny_bind (wpAny_bind (stCC x hk hl hc fun s' x' => wpAny_pure (bind_toks f hf hk r _ _ s' Q x' kr hr fun s'' k x'' => h s'' k ?_)))
      unfold bindL bindC; rw [if_neg hnl, if_neg hnl]; exact x''
theorem newEnv_toks {M : Model} {A : Around} {E : Value → Shared → Prop} {s : Shared} {scope : Scope} {globals : Addr} {bs : List (Str × Value)} {qual : Str} {func : Option Addr} {code : Value} {builtins : Addr} {Q : Env → Shared → Prop}
    (hk : scope.kind = .function)
    (kinds : ∀ x ∈ bs, scope.names.lookup x.1 = some .local ∨ (scope.names.lookup x.1 = some .cell ∧ ((cellsFrom (s.heap.objs.size + 1) scope.names []).lookup x.1).isSome = true)) (he : ∃ x ∈ bs, scope.names.lookup x.1 = some .local)
    (hQ : ∀ env, env = newEnv scope s.heap.objs.size globals (cellsFrom (s.heap.objs.size + 1) scope.names []) qual func code none builtins →
      ∀ s', 1 ≤ s'.toks → InCallC s env.locals (bindL env.kindOf bs fun _ => none) env.cells (bindC env.kindOf bs fun _ => none) s' → Q env s') :
    wpAny M A (newFunctionEnv scope globals [] bs qual func code none builtins) Q E s := by
  simp only [newFunctionEnv, Option.isSome_none, Bool.false_eq_true, if_false]
  refine wpAny_bind (wpAny_alloc (wpAny_bind (wpAny_layCells _ (fun name kind cells => by cases hkc : kind == NameKind.cell <;> simp [hkc]) _ _ _ _ ?_)))
  have ok := cellsFrom_ok scope.names (s.heap.push { cls := .type "frame", data := .dict #[] }) (s.heap.objs.size + 1) [] ⟨fun _ _ hm => (nomatch hm), List.Pairwise.nil⟩ (by rw [Heap.size_push]; exact Nat.le_refl _)
  rw [Heap.size_push] at ok
  rw [show ({ s with heap := s.heap.push { cls := .type "frame", data := .dict #[] } } : Shared).heap.objs.size = s.heap.objs.size + 1 from Heap.size_push ..]
  exact wpAny_bind (bind_toks (s₀ := s) (env := newEnv scope s.heap.objs.size globals (cellsFrom (s.heap.objs.size + 1) scope.names []) qual func code none builtins) _ (fun _ _ _ => rfl) hk bs (fun _ => none) (fun _ => none) _ _
    ⟨⟨⟨_, _, rfl⟩, (Heap.Ns.new s.heap (.type "frame")).keeps (pushCells_keeps _ _), fun b o e => pushCells_keeps _ _ b o (Heap.get?_push_of_some _ e), Nat.le_refl _⟩, fun n c hc => (ok.empty n c (mem_of_lookup hc)).1, ok.apart, fun n c hm => (ok.empty n c hm).2⟩
    kinds he fun s' k x => wpAny_pure (hQ _ rfl s' k x))
/-- a body, at its entry: with T where a parameter is a local -/
theorem fn_w {CX : CXT} {k : Nat} {f : Addr} {name qual : Str} {params : Arguments} {body : List Stmt} {scope : Scope} {dV kV doc pm cdv ct oc : Value} {an od : Option Addr} {T : Bool}
    {osl : Array (Option Value)} {N ps : List Str} {sp : Sp} (lk : K.lookup f = some ⟨oc, od, .func (PySem.W.fnOf name qual params body scope dV kV doc pm an cdv ct), osl⟩) (hcd : PySem.W.codeIn K cdv qual = true) (S : FnScope N ps scope) (hT : T = true → ∃ x ∈ ps, scope.names.lookup x = some .local)
    (len : ∀ vs H Q E, sp vs H Q E → vs.length = ps.length)
    (hbody : ∀ (A : Around) (outer : List Env) (s : Shared) (H : Hp) (vs : List V) (Q : VK) (E : XK), Room k (A.deeper (PyProof.Rows.envOfC qual scope s.heap.objs.size f cdv)) → sp vs H Q E →
      tWSs (cxOf CX P w K mg base N qual scope f cdv A outer s H E) T body { nx := fun _ H' => Q .non H', rt := Q } (L2.start N vs) H) :
    FnOk P w K mg base CX (k + 1) f (PySem.W.fnOf name qual params body scope dV kV doc pm an cdv ct) ps sp := by
  refine ⟨len, fun A outer s H args us vs Q E hr e0 hb r hsp => ?_⟩
  have hl := len _ _ _ _ hsp
  have KX : K.In s.heap := e0.mod.kin.keeps fun b o e => (e0.bs b o e).1
  have lim : s.heap.NoLimit := e0.mod.nolimit.keeps fun b o e => (e0.bs b o e).1
  have kinds : ∀ y ∈ ps.zip us, scope.names.lookup y.1 = some .local ∨ (scope.names.lookup y.1 = some .cell ∧ ((cellsFrom (s.heap.objs.size + 1) scope.names []).lookup y.1).isSome = true) := fun ⟨n, v⟩ hy => by
    rcases S.par n (List.of_mem_zip hy).1 with q | q
    · exact .inl q
    · exact .inr ⟨q, PySem.W.cellsFrom_some _ _ _ (.inl q)⟩
  refine codeAny_call_function hr.depth (KX _ _ lk) rfl S.co S.gen rfl (PySem.W.codeRec_of KX hcd) (hb _ _ _ _ ?_)
  have main : ∀ env, env = newEnv scope s.heap.objs.size mainGlobals (cellsFrom (s.heap.objs.size + 1) scope.names []) (qual ++ ".<locals>.") (some f) cdv none builtinsNs → ∀ s1, Tk T s1 → InCallC s env.locals (bindL env.kindOf (ps.zip us) fun _ => none) env.cells (bindC env.kindOf (ps.zip us) fun _ => none) s1 →
      s1.heap.NoLimit ∧ codeAny (model P w) A (.func body env) (CR CX outer P w H s Q E) s1 := by
    intro env he s1 hk x
    subst he
    refine ⟨lim.keeps x.toInCall.keep, codeAny_func ?_⟩
    have ht := hbody A outer s H vs Q E (hr.deeper _) hsp
    have I : Inv (cxOf CX P w K mg base N qual scope f cdv A outer s H E) [] (L2.start N vs) H s1 := inv_start S hr.hd e0 hl r x
    refine wpAny_mono (ht [] s1 hk I) (fun fl s' hs => ?_) fun e s' hs => hs
    cases fl with
    | ret u =>
      obtain ⟨v, σ', H', J, rv, q⟩ := hs
      exact ⟨v, H', J.os, J.bare, J.base, J.hok, rv, q⟩
    | next =>
      obtain ⟨σ', H', J, q⟩ := hs
      exact ⟨V.non, H', J.os, J.bare, J.base, J.hok, (rfl : Value.none = Value.none), q⟩
    | brk => obtain ⟨_, _, _, q⟩ := hs; exact False.elim q
    | cont => obtain ⟨_, _, _, q⟩ := hs; exact False.elim q
  cases T with
  | false => exact wpAny_newFunctionEnv_cells S.kind kinds fun env he s1 x => main env he s1 tk_f x
  | true =>
    refine newEnv_toks S.kind kinds ?_ fun env he s1 k x => main env he s1 (fun _ => k) x
    obtain ⟨x, hx, h2⟩ := hT rfl
    obtain ⟨i, hi, e⟩ := List.getElem_of_mem hx
    have hul : us.length = ps.length := by rw [← r.length, hl]
    exact ⟨(ps[i], us[i]'(by omega)), List.mem_of_getElem? (i := i) (by rw [List.getElem?_zip_eq_some]; exact ⟨List.getElem?_eq_getElem hi, List.getElem?_eq_getElem _⟩), by rw [e]; exact h2⟩
/-- THE RULE for a def that may raise (or not) -/
theorem fn_d {x qual : Str} {st : Stmt} {f : Addr} {fd : FuncData} {N ps : List Str} {k : Nat} {S : Spc} (T : Bool) (F : Fun K x qual st f fd) (Sc : FnScope N ps (defScope st)) (hT : T = true → ∃ x ∈ ps, (defScope st).names.lookup x = some .local) (len : ∀ ds M P E, S ds M P E → ds.length = ps.length)
    (body : ∀ (cdv : Value) (A : Around) (outer : List Env) (s : Shared) (H : Hp) (E : XK), Room k (A.deeper (PyProof.Rows.envOfC qual (defScope st) s.heap.objs.size f cdv)) → ∀ ds M Pd PE, S ds M Pd PE →
      WS (cxOf (L2.CX P w) P w K mg base N qual (defScope st) f cdv A outer s H E) T (defBody st) (startT N ds) M (retR Pd PE)) : FnD P w K mg base (k + 1) f fd ps S := by
  obtain ⟨oc, od, kV, doc, pm, an, cdv, ct, osl, rfl, lk, hcd⟩ := F.ex
  refine fn_w (T := T) lk hcd Sc hT (fun vs H Q E h => ?_) (fun A outer s H vs Q E hr h => ?_)
  · obtain ⟨G, ds, M, Pd, PE, dv, _, hs, _⟩ := h
    rw [dv.length]; exact len _ _ _ _ hs
  · obtain ⟨G, ds, M, Pd, PE, dv, hH, hs, hP, hX⟩ := h
    exact (body cdv A outer s H E hr ds M Pd PE hs).run _ (takes_of rfl rfl rfl rfl) _ G H (denE_start dv) hH _ (cs_ret hP fun x M2 G2 H2 d p s h dx σ => hX x M2 G2 H2 d p s h dx)
/-- the law's own def: nothing leaves it -/
theorem fn_law {x qual : Str} {st : Stmt} {f : Addr} {fd : FuncData} {N ps : List Str} {k : Nat} {S : Spc} (T : Bool) (F : Fun K x qual st f fd) (Sc : FnScope N ps (defScope st)) (hT : T = true → ∃ x ∈ ps, (defScope st).names.lookup x = some .local) (len : ∀ ds M P E, S ds M P E → ds.length = ps.length)
    (body : ∀ (cdv : Value) (A : Around) (outer : List Env) (s : Shared) (H : Hp), Room k (A.deeper (PyProof.Rows.envOfC qual (defScope st) s.heap.objs.size f cdv)) → ∀ ds M Pd PE, S ds M Pd PE →
      WS (cxOf CX0 P w K mg base N qual (defScope st) f cdv A outer s H L2.E0).nox T (defBody st) (startT N ds) M (retR Pd E0')) : FnOk P w K mg base CX0 (k + 1) f fd ps (toSp K S) := by
  obtain ⟨oc, od, kV, doc, pm, an, cdv, ct, osl, rfl, lk, hcd⟩ := F.ex
  refine fn_w (T := T) lk hcd Sc hT (fun vs H Q E h => ?_) (fun A outer s H vs Q E hr h => ?_)
  · obtain ⟨G, ds, M, Pd, PE, dv, _, hs, _⟩ := h
    rw [dv.length]; exact len _ _ _ _ hs
  · obtain ⟨G, ds, M, Pd, PE, dv, hH, hs, hP, hX⟩ := h
    intro pins s1 tk I
    have q := (body cdv A outer s H hr ds M Pd PE hs).run _ takes0 _ G H (denE_start dv) hH _ (cs_ret hP fun x M2 G2 H2 d p => p.elim) pins s1 tk (I.wish _)
    exact wpAny_mono q (fun _ _ z => z.unwish) fun _ _ z => False.elim z
end

/-! ### calls -/
section
variable {X : Cx} {T : Bool} {τ : TEnv} {M : Mem} {P : PK'} {E : XKx} {e o a b c : Expr} {es : List Expr} {pos p apos : Pos} {k : Nat} {f C : Addr} {fd : FuncData} {ps : List Str} {S : Spc} {dvs : List V} {df : List Dat} {dsv : List Value} {x m : Str}
theorem run_d {pins : List (Addr × Obj)} {σ : L2.St} {H : Hp} {s : Shared} {Q : VK} {us : List Value} {vs : List V} {W : WX} (F : FnD X.prog X.w X.K X.mg X.base k f fd ps S) (hr : Room k X.A) (hb : Binds X.K fd ps dsv) (hd : Vals dvs dsv) (tk : Takes X W)
    (I : Inv X pins σ H s) (r : Vals vs us) (h : toSp X.K S (vs ++ dvs) H Q (fun c d H2 => W c d σ H2)) : wpAny (model X.prog X.w) X.A (call (.ref f) us) (EP X pins σ Q) X.xe s :=
  run_fnSD (E := fun σ c d H2 => W c d σ H2) F hr hb hd (fun pins H s e s' I c => tk e s' (XE.of_call I (fun cls d H' h => h) c)) I r h
/-- f(e, ..) -/
theorem ex_call (F : FnD X.prog X.w X.K X.mg X.base k f fd ps S) (hr : Room k X.A) (hm : X.mg x = some (.ref f)) (hk : PySem.W.keepIn X.K (.ref f) = true) (hb : Binds X.K fd ps dsv) (hd : Vals dvs dsv) (hdf : ∀ G, DenL X.K G df dvs)
    (h : EA X T (e :: es) τ M (fun ds M1 => AP S (ds ++ df) M1 P E) E) (hg : Gl X x := by rfl) (hdb : (x == ("__debug__" : Str)) = false := by decide) (he : starEach (e :: es) X.env = (false, eval e X.env) :: starEach es X.env := by rfl) (hpl : (backTo pos (starEach es X.env)).any (·.1) = false := by rfl) :
    EX X T (.Call (.Name x p) (e :: es) [] pos) τ M P E := by
  refine .mk ?_; intro W tk σ G H hE hH Q hP hX pins s k0 I
  refine wpAny_Call_Name_kw (ld_glob I hg hm ?_ hdb)
  have hA := h.run W tk σ G H hE hH (fun vs H1 => toSp X.K S (vs ++ dvs) H1 Q (fun c d H2 => W c d σ H2)) (fun ds M1 vs G1 H1 ha s1 h1 dv => ap_toSp ha (dv.append (hdf G1)) h1 (hP.step s1) (hX.step s1)) hX
  refine PySem.W.callWith_K (h₀ := X.base) I.ok.mod.kin hk (thn (hA pos pins s k0 I) fun us s1 ⟨vs, H1, I1, r, q⟩ => ⟨I1.kIn, ?_⟩) he hpl
  exact run_d F hr hb hd tk I1 r q
/-- an instance of the class at C without a field m -/
def IsI (C : Addr) (m : Str) (M : Mem) (d : Dat) : Prop := (∃ ns ds, d = .obj C ns ds ∧ m ∉ ns) ∨ ∃ p dx fs, d = .raw (.ref p) ∧ (p, MC.ins C dx fs) ∈ M ∧ m ∉ fs.map (·.1)
theorem lookup_none_of {α : Type} : ∀ {l : List (Str × α)} {m : Str}, m ∉ l.map (·.1) → l.lookup m = none
  | [], _, _ => rfl
  | (n, v) :: r, m, h => by
    have h1 : (m == n) = false := by
      cases q : m == n with
      | false => rfl
      | true => exact absurd (List.mem_map.mpr ⟨(n, v), List.mem_cons_self, (eq_of_beq q).symm⟩) h
    rw [List.lookup_cons, h1]
    exact lookup_none_of fun z => h (List.mem_cons_of_mem _ z)
theorem zip_fst_sub {α β : Type} {a : α} : ∀ {l : List α} {r : List β}, a ∈ (l.zip r).map (·.1) → a ∈ l
  | [], _, h => by simp at h
  | _ :: _, [], h => by simp at h
  | x :: l, y :: r, h => by
    rw [List.zip_cons_cons, List.map_cons] at h
    rcases List.mem_cons.mp h with e | h
    · exact List.mem_cons.mpr (.inl e)
    · exact List.mem_cons_of_mem _ (zip_fst_sub h)
theorem IsI.get {K : PySem.W.Frag} {G H : Hp} {d : Dat} {v : V} (h : IsI C m M d) (hH : Hst K G M H) (dv : Den K G d v) : ∃ a dx fs, v = .ref a ∧ H a = some (.ins C dx fs) ∧ fs.lookup m = none := by
  rcases h with ⟨ns, ds, rfl, hm⟩ | ⟨q, dx, fs, rfl, hq, hm⟩
  · obtain ⟨a, dx, vs, rfl, h1, h2, h3⟩ := dv.obj_inv
    exact ⟨a, dx, _, rfl, hH.sub _ _ h1, lookup_none_of fun z => hm (zip_fst_sub z)⟩
  · obtain ⟨vs, h1, h2, h3⟩ := hH.mem _ hq
    exact ⟨q, dx, vs, dv.raw_inv, h1, lookup_none_of fun z => hm (by rw [← h3.1]; exact z)⟩
/-- e.f, a property -/
theorem ex_prop {q g : Addr} {n : Str} (c : Cls X.K C) (hp : PropOf X.K C n q g) (F : FnD X.prog X.w X.K X.mg X.base k g fd ps S) (hr : Room (k + 1) X.A) (hb : Binds X.K fd ps [])
    (h : EX X T e τ M (fun d M1 => (∃ m, IsI C m M1 d) ∧ AP S [d] M1 P E0') E) (hab : attributeBase e n X.env (eval e X.env) = eval e X.env := by rfl) : EX X T (.Attribute e n pos) τ M P E := by
  refine .mk ?_; intro W tk σ G H hE hH Q hP hX
  intro pins s k0 I
  have hO := h.run W tk σ G H hE hH (fun x H1 => ∃ a dx fs, x = .ref a ∧ H1 a = some (.ins C dx fs) ∧ toSp X.K S [x] H1 Q L2.E0) (fun d M1 v G1 H1 ⟨⟨m, hi⟩, ha⟩ s1 h1 dv => by
    obtain ⟨a, dx, fs, e1, e2, e3⟩ := hi.get h1 dv
    exact ⟨a, dx, fs, e1, e2, ap_toSp ha (.cons dv .nil) h1 (hP.step s1) noX⟩) hX
  refine attr_of hab (thn (hO pins s k0 I) fun u s1 ⟨x, H1, I1, rx, a, dx, fs, ex, ea, q⟩ => ?_)
  subst ex
  obtain rfl : u = Value.ref a := rx
  exact getprop_ok (dvs := []) I1 ea c hp F hr hb .nil passL q
/-- a field of an instance -/
def FldI (K : PySem.W.Frag) (n : Str) (M : Mem) (d z : Dat) : Prop := ∃ C, Cls K C ∧ NoAttr K C n ∧ ((∃ ns ds, d = .obj C ns ds ∧ ns.length = ds.length ∧ (ns.zip ds).lookup n = some z) ∨ ∃ p dx fs, d = .raw (.ref p) ∧ (p, MC.ins C dx fs) ∈ M ∧ fs.lookup n = some z)
theorem denL_lookup {K : PySem.W.Frag} {G : Hp} : ∀ {ns : List Str} {ds : List Dat} {vs : List V} {n : Str} {z : Dat}, DenL K G ds vs → (ns.zip ds).lookup n = some z → ∃ v, (ns.zip vs).lookup n = some v ∧ Den K G z v
  | [], _, _, _, _, _, h => by simp at h
  | _ :: _, [], _, _, _, _, h => by simp at h
  | y :: ns, d :: ds, _, n, z, q, h => by
    obtain ⟨v, r, rfl, hv, t⟩ := q.cons_inv
    rw [List.zip_cons_cons, List.lookup_cons] at h ⊢
    cases e : n == y with
    | true => rw [e] at h; cases h; exact ⟨v, rfl, hv⟩
    | false => rw [e] at h; exact denL_lookup t h
theorem denF_lookup {K : PySem.W.Frag} {G : Hp} : ∀ {fs : List (Str × Dat)} {vs : List (Str × V)} {n : Str} {z : Dat}, DenF K G fs vs → fs.lookup n = some z → ∃ v, vs.lookup n = some v ∧ Den K G z v
  | [], _, _, _, _, h => by simp at h
  | (y, d) :: fs, [], _, _, q, h => by have := q.1; simp at this
  | (y, d) :: fs, (y', v) :: vs, n, z, q, h => by
    obtain ⟨h1, h2⟩ := q
    rw [List.map_cons, List.map_cons] at h1
    obtain ⟨e1, e2⟩ := List.cons.inj h1
    have e1 : y' = y := e1
    subst e1
    obtain ⟨v', r, e, hv, t⟩ := (show DenL K G (d :: fs.map (·.2)) (v :: vs.map (·.2)) from h2).cons_inv
    obtain ⟨rfl, rfl⟩ := List.cons.inj e
    rw [List.lookup_cons] at h ⊢
    cases e : n == y' with
    | true => rw [e] at h; cases h; exact ⟨v, rfl, hv⟩
    | false => rw [e] at h; exact denF_lookup ⟨e2, t⟩ h
theorem v_fld {n : Str} {σ : L2.St} {H : Hp} {Q : VK} (hb : attributeBase e n X.env (eval e X.env) = eval e X.env) (q : tW X T e σ H fun x H1 => ∃ a C dx fs v, x = .ref a ∧ H1 a = some (.ins C dx fs) ∧ Cls X.K C ∧ NoAttr X.K C n ∧ fs.lookup n = some v ∧ Q v H1) :
    tW X T (.Attribute e n pos) σ H Q := fun pins s k0 I =>
  attr_of hb (thn (q pins s k0 I) fun u s1 ⟨x, H1, I1, rx, a, C, dx, fs, v, ex, ea, hc, hn, l, q⟩ => by
    subst ex
    obtain rfl : u = Value.ref a := rx
    exact getattr_ok I1 ea hc hn l fun u' s2 I2 ru => ⟨v, H1, I2, ru, q⟩)
theorem ex_fld {n : Str} (h : EX X T e τ M (fun d M1 => ∃ z, FldI X.K n M1 d z ∧ P z M1) E) (hb : attributeBase e n X.env (eval e X.env) = eval e X.env := by rfl) : EX X T (.Attribute e n pos) τ M P E := by
  refine .mk ?_; intro W tk σ G H hE hH Q hP hX
  refine v_fld hb ?_
  refine h.run W tk σ G H hE hH _ ?_ hX
  intro d M1 v G1 H1 ⟨z, ⟨C, hc, hn, hz⟩, hp⟩ s1 h1 dv
  rcases hz with ⟨ns, ds, rfl, hl, hz⟩ | ⟨q, dx, fs, rfl, hq, hz⟩
  · obtain ⟨a, dx, vs, rfl, g1, g2, g3⟩ := dv.obj_inv
    obtain ⟨u, l1, l2⟩ := denL_lookup g3 hz
    exact ⟨a, C, dx, _, u, rfl, h1.sub _ _ g1, hc, hn, l1, hP _ _ _ _ _ hp s1 h1 l2⟩
  · obtain ⟨vs, g1, g2, g3⟩ := h1.mem _ hq
    obtain ⟨u, l1, l2⟩ := denF_lookup g3 hz
    exact ⟨q, C, dx, vs, u, dv.raw_inv, g1, hc, hn, l1, hP _ _ _ _ _ hp s1 h1 l2⟩
/-! ### new instances -/
theorem hst_new {K : PySem.W.Frag} {G H : Hp} {x dx C : Addr} (h : Hst K G M H) (hx : H x = none) (hdx : H dx = none) (ne : dx ≠ x) :
    Hst K G ((x, .ins C dx []) :: M) (upd (upd H dx (.own x)) x (.ins C dx [])) ∧ Stp G M H G ((x, .ins C dx []) :: M) (upd (upd H dx (.own x)) x (.ins C dx [])) := by
  have nM : ∀ b ∈ adr M, b ≠ x ∧ b ≠ dx := fun b hb => ⟨fun e => h.there b hb (by rw [e]; exact hx), fun e => h.there b hb (by rw [e]; exact hdx)⟩
  have kp : ∀ b o, H b = some o → (upd (upd H dx (.own x)) x (.ins C dx [])) b = some o := fun b o e => by
    rw [upd_ne (ne_of_none e hx), upd_ne (ne_of_none e hdx)]; exact e
  have ha : adr ((x, MC.ins C dx []) :: M) = x :: dx :: adr M := rfl
  refine ⟨⟨fun b o e => kp b o (h.sub b o e), fun c hc => ?_, fun b hb => ?_, ?_⟩, ⟨Same.refl _, fun b o _ e => kp b o e, fun _ _ _ g => g, fun b hb => ?_⟩⟩
  · rcases List.mem_cons.mp hc with rfl | hc
    · exact ⟨[], upd_same, by rw [upd_ne ne]; exact upd_same, rfl, .nil⟩
    · exact (h.mem c hc).up (Same.refl _) fun b hb o e => kp b o e
  · rw [ha] at hb
    rcases List.mem_cons.mp hb with rfl | hb
    · exact h.sub.free hx
    · rcases List.mem_cons.mp hb with rfl | hb
      · exact h.sub.free hdx
      · exact h.out b hb
  · rw [ha]
    refine List.nodup_cons.mpr ⟨fun hm => ?_, List.nodup_cons.mpr ⟨fun hm => (nM dx hm).2 rfl, h.nd⟩⟩
    rcases List.mem_cons.mp hm with e | hm
    · exact ne e.symm
    · exact (nM x hm).1 rfl
  · rw [ha] at hb
    rcases List.mem_cons.mp hb with rfl | hb
    · exact .inr hx
    · rcases List.mem_cons.mp hb with rfl | hb
      · exact .inr hdx
      · exact .inl hb
theorem zip_map {α β : Type} : ∀ (l : List (α × β)), (l.map (·.1)).zip (l.map (·.2)) = l
  | [] => rfl
  | (a, b) :: l => by simp only [List.map_cons, List.zip_cons_cons, zip_map l]
/-- a cell of an instance is changed no more -/
theorem freezeI {K : PySem.W.Frag} {G H : Hp} {x dx C : Addr} {fs : List (Str × Dat)} (h : Hst K G ((x, .ins C dx fs) :: M) H) : ∃ G', Stp G ((x, .ins C dx fs) :: M) H G' M H ∧ Hst K G' M H ∧ Den K G' (.obj C (fs.map (·.1)) (fs.map (·.2))) (.ref x) := by
  obtain ⟨vs, h1, h2, h3, h4⟩ := h.mem _ List.mem_cons_self
  have ha : adr ((x, MC.ins C dx fs) :: M) = x :: dx :: adr M := rfl
  have gx : G x = none := h.out x (by rw [ha]; exact List.mem_cons_self)
  have gdx : G dx = none := h.out dx (by rw [ha]; exact List.mem_cons_of_mem _ List.mem_cons_self)
  have nd := h.nd
  rw [ha] at nd
  obtain ⟨n1, n2⟩ := List.nodup_cons.mp nd
  obtain ⟨n3, n4⟩ := List.nodup_cons.mp n2
  have ne : dx ≠ x := fun e => n1 (by rw [e]; exact List.mem_cons_self)
  have up : Same G (upd (upd G dx (.own x)) x (.ins C dx vs)) := fun b o e => by rw [upd_ne (ne_of_none e gx), upd_ne (ne_of_none e gdx)]; exact e
  have sub : Same (upd (upd G dx (.own x)) x (.ins C dx vs)) H := fun b o e => by
    by_cases c : b = x
    · subst c; rw [upd_same] at e; cases e; exact h1
    · rw [upd_ne c] at e
      by_cases c : b = dx
      · subst c; rw [upd_same] at e; cases e; exact h2
      · rw [upd_ne c] at e; exact h.sub b o e
  refine ⟨_, ⟨up, fun _ _ _ e => e, fun b _ hb g => ?_, fun b hb => .inl (by rw [ha]; exact List.mem_cons_of_mem _ (List.mem_cons_of_mem _ hb))⟩, ⟨sub, fun c hc => (h.mem c (List.mem_cons_of_mem _ hc)).up up fun _ _ _ e => e, fun b hb => ?_, n4⟩, ?_⟩
  · rw [ha] at hb
    rw [upd_ne (fun e => hb (by rw [e]; exact List.mem_cons_self)), upd_ne (fun e => hb (by rw [e]; exact List.mem_cons_of_mem _ List.mem_cons_self))]; exact g
  · rw [upd_ne (fun e => n1 (by rw [← e]; exact List.mem_cons_of_mem _ hb)), upd_ne (fun e => n3 (by rw [← e]; exact hb))]
    exact h.out b (by rw [ha]; exact List.mem_cons_of_mem _ (List.mem_cons_of_mem _ hb))
  · simp only [Den]
    refine ⟨x, dx, vs.map (·.2), rfl, ?_, by rw [upd_ne ne]; exact upd_same, h4.up up⟩
    rw [upd_same, ← h3, zip_map]
theorem freezeL {K : PySem.W.Frag} {G H : Hp} {x : Addr} {ds : List Dat} (h : Hst K G ((x, .lst ds) :: M) H) : ∃ G', Stp G ((x, .lst ds) :: M) H G' M H ∧ Hst K G' M H ∧ Den K G' (.lst ds) (.ref x) := by
  obtain ⟨vs, h1, h4⟩ := h.mem _ List.mem_cons_self
  have ha : adr ((x, MC.lst ds) :: M) = x :: adr M := rfl
  have gx : G x = none := h.out x (by rw [ha]; exact List.mem_cons_self)
  have nd := h.nd
  rw [ha] at nd
  obtain ⟨n1, n4⟩ := List.nodup_cons.mp nd
  have up : Same G (upd G x (.lst vs)) := fun b o e => by rw [upd_ne (ne_of_none e gx)]; exact e
  have sub : Same (upd G x (.lst vs)) H := fun b o e => by
    by_cases c : b = x
    · subst c; rw [upd_same] at e; cases e; exact h1
    · rw [upd_ne c] at e; exact h.sub b o e
  refine ⟨_, ⟨up, fun _ _ _ e => e, fun b _ hb g => ?_, fun b hb => .inl (by rw [ha]; exact List.mem_cons_of_mem _ hb)⟩, ⟨sub, fun c hc => (h.mem c (List.mem_cons_of_mem _ hc)).up up fun _ _ _ e => e, fun b hb => ?_, n4⟩, den_lst upd_same (h4.up up)⟩
  · rw [ha] at hb
    rw [upd_ne (fun e => hb (by rw [e]; exact List.mem_cons_self))]; exact g
  · rw [upd_ne (fun e => n1 (by rw [← e]; exact hb))]
    exact h.out b (by rw [ha]; exact List.mem_cons_of_mem _ hb)
/-- what becomes of a new instance at x: it stays a cell, or it is frozen -/
def MadeP (P : PK') (x : Addr) (M2 : Mem) : Prop := P (.raw (.ref x)) M2 ∨ ∃ C dx fs M3, M2.Perm ((x, .ins C dx fs) :: M3) ∧ P (.obj C (fs.map (·.1)) (fs.map (·.2))) M3
theorem madeP_ce {K : PySem.W.Frag} {G H : Hp} {Q : VK} {x : Addr} (hP : CE' K G M H P Q) {M2 : Mem} {G2 H2 : Hp} (hm : MadeP P x M2) (s : Stp G M H G2 M2 H2) (h2 : Hst K G2 M2 H2) : Q (.ref x) H2 := by
  rcases hm with hm | ⟨C, dx, fs, M3, pm, hm⟩
  · exact hP _ _ _ _ _ hm s h2 den_raw
  · obtain ⟨G', s3, h3, d3⟩ := freezeI (h2.perm pm)
    exact hP _ _ _ _ _ hm ((s.perm (List.Perm.refl _) pm).trans s3) h3 d3
theorem run_makeD {pins : List (Addr × Obj)} {σ : L2.St} {H : Hp} {s : Shared} {Q : VK} {us : List Value} {vs : List V} {W : WX} (Mk' : Mk X.K C f) (F : FnD X.prog X.w X.K X.mg X.base k f fd ps S) (hr : Room (k + 1) X.A) (hb : Binds X.K fd ps dsv) (hd : Vals dvs dsv)
    (tk : Takes X W) (I : Inv X pins σ H s) (r : Vals vs us)
    (h : ∀ x dx, H x = none → H dx = none → dx ≠ x → toSp X.K S (.ref x :: (vs ++ dvs)) (upd (upd H dx (.own x)) x (.ins C dx [])) (fun v H2 => v = .non ∧ Q (.ref x) H2) (fun c d H2 => W c d σ H2)) :
    wpAny (model X.prog X.w) X.A (call (.ref C) us) (EP X pins σ Q) X.xe s := by
  have hq := h (s.heap.objs.size + 1) s.heap.objs.size (I.hok.fresh (Nat.le_succ _)) (I.hok.fresh (Nat.le_refl _)) (Nat.ne_of_lt (Nat.lt_succ_self _))
  have I2 := Inv.made (C := C) I
  have r2 : Vals (V.ref (s.heap.objs.size + 1) :: (vs ++ dvs)) (Value.ref (s.heap.objs.size + 1) :: (us ++ dsv)) := .cons rfl (r.append hd)
  have hl : (Value.ref (s.heap.objs.size + 1) :: us ++ dsv).length = ps.length := by
    have e := r2.length
    rw [F.len _ _ _ _ hq] at e
    exact e.symm
  refine wpAny_call (make_map (f := f) I.kIn Mk'.makes Mk'.init (beq_iff_eq.mp Mk'.fn) (codeAny_mono (F.run _ X.stack _ _ ⟨Value.ref (s.heap.objs.size + 1) :: us, []⟩ (Value.ref (s.heap.objs.size + 1) :: (us ++ dsv)) _ _ _ (hr.make C us [])
    (I2.env0.make C us []) (hb _ (Value.ref (s.heap.objs.size + 1) :: us) I2.kIn hl) r2 hq) fun r s' hq' => ?_))
  cases r with
  | error e => exact tk e s' (XE.of_call I2 (fun cls d H' h => h) hq')
  | ok fl =>
    cases fl with
    | ret u =>
      obtain ⟨v, H', I3, rv, ev, q3⟩ := I2.after hq'
      subst ev
      exact ⟨rv, ⟨V.ref (s.heap.objs.size + 1), H', I3, rfl, q3⟩⟩
    | next => exact False.elim hq'
    | brk => exact False.elim hq'
    | cont => exact False.elim hq'
theorem make_sp {K : PySem.W.Frag} {G H : Hp} {Q : VK} {T : XK} {ds : List Dat} {vs : List V}
    (h : ∀ x dx, x ∉ adr M → dx ∉ adr M → dx ≠ x → AP S (.raw (.ref x) :: ds) ((x, .ins C dx []) :: M) (fun d M2 => d = .non ∧ MadeP P x M2) E) (dv : DenL K G ds vs) (hH : Hst K G M H) (hP : CE' K G M H P Q) (hX : CX' K G M H E T) :
    ∀ x dx, H x = none → H dx = none → dx ≠ x → toSp K S (.ref x :: vs) (upd (upd H dx (.own x)) x (.ins C dx [])) (fun v H2 => v = .non ∧ Q (.ref x) H2) T := by
  intro x dx hx hdx ne
  obtain ⟨h1, s1⟩ := hst_new (C := C) hH hx hdx ne
  have n1 : x ∉ adr M := fun z => hH.there x z hx
  have n2 : dx ∉ adr M := fun z => hH.there dx z hdx
  refine ap_toSp (h x dx n1 n2 ne) (.cons den_raw dv) h1 (fun d M2 v G2 H2 ⟨e, hm⟩ s2 h2 dd => ?_) (hX.step s1)
  subst e
  exact ⟨dd.non_inv, madeP_ce hP hm (s1.trans s2) h2⟩
/-- C(e, ..) -/
theorem ex_make (Mk' : Mk X.K C f) (F : FnD X.prog X.w X.K X.mg X.base k f fd ps S) (hr : Room (k + 1) X.A) (hm : X.mg x = some (.ref C)) (hb : Binds X.K fd ps dsv) (hd : Vals dvs dsv) (hdf : ∀ G, DenL X.K G df dvs)
    (h : EA X T (e :: es) τ M (fun ds M1 => ∀ x dx, x ∉ adr M1 → dx ∉ adr M1 → dx ≠ x → AP S (.raw (.ref x) :: (ds ++ df)) ((x, .ins C dx []) :: M1) (fun d M2 => d = .non ∧ MadeP P x M2) E) E)
    (hg : Gl X x := by rfl) (hdb : (x == ("__debug__" : Str)) = false := by decide) (he : starEach (e :: es) X.env = (false, eval e X.env) :: starEach es X.env := by rfl) (hpl : (backTo pos (starEach es X.env)).any (·.1) = false := by rfl) :
    EX X T (.Call (.Name x p) (e :: es) [] pos) τ M P E := by
  refine .mk ?_; intro W tk σ G H hE hH Q hP hX pins s k0 I
  refine wpAny_Call_Name_kw (ld_glob I hg hm ?_ hdb)
  have hA := h.run W tk σ G H hE hH (fun vs H1 => ∀ x dx, H1 x = none → H1 dx = none → dx ≠ x → toSp X.K S (.ref x :: (vs ++ dvs)) (upd (upd H1 dx (.own x)) x (.ins C dx [])) (fun v H2 => v = .non ∧ Q (.ref x) H2) (fun c d H2 => W c d σ H2))
    (fun ds M1 vs G1 H1 ha s1 h1 dv => make_sp ha (dv.append (hdf G1)) h1 (hP.step s1) (hX.step s1)) hX
  refine PySem.W.callWith_K (h₀ := X.base) I.ok.mod.kin Mk'.kp (thn (hA pos pins s k0 I) fun us s1 ⟨vs, H1, I1, r, q⟩ => ⟨I1.kIn, ?_⟩) he hpl
  exact run_makeD Mk' F hr hb hd tk I1 r q
end
end Kh

set_option Elab.async false
set_option linter.all false
set_option maxRecDepth 100000
set_option maxHeartbeats 1000000
namespace Kh
open PySem PySem.Spec L2

/-! ### what is walked -/
/-- J gives the data ds, one after the other, as long as the cells are as Ok says; the unchanging part G1 stands -/
def WalkD (K : PySem.W.Frag) (J : It) (ds : List Dat) (G1 : Hp) (Ok : Mem → Prop) : Prop :=
  ∀ G2 M2 H2, Same G1 G2 → Hst K G2 M2 H2 → Ok M2 → (∀ i, i < ds.length → J.go i H2) ∧ J.stop ds.length H2 ∧
    ∀ i x H', i < ds.length → J.yld i H2 x H' → ∃ G', Stp G2 M2 H2 G' M2 H' ∧ Hst K G' M2 H' ∧ ∀ d, ds[i]? = some d → Den K G' d x
/-- the iterable gives ds; behind its evaluation the cells are M1 -/
structure EI (X : Cx) (tg iter : Expr) (τ : TEnv) (M : Mem) (P : List Dat → Mem → (Mem → Prop) → Prop) (E : XKx) : Prop where
  run : ∀ W, Takes X W → ∀ σ G H, DenE X.K τ G σ → Hst X.K G M H → ∀ R : It → Hp → Prop,
    (∀ J ds M1 G1 H1 Ok, P ds M1 Ok → Stp G M H G1 M1 H1 → Hst X.K G1 M1 H1 → WalkD X.K J ds G1 Ok → R J H1) → CX' X.K G M H E (fun c d H2 => W c d σ H2) → tWI X false tg iter σ H R
abbrev anyM : Mem → Prop := fun _ => True
section
variable {X : Cx} {T : Bool} {tg iter e a b c : Expr} {τ : TEnv} {M : Mem} {E : XKx} {pos p : Pos} {PI' : List Dat → Mem → (Mem → Prop) → Prop}
theorem walkD_list {K : PySem.W.Frag} {G1 : Hp} {a : Addr} {vs : List V} {ds : List Dat} (hq : SqL K G1 a vs) (hd : DenL K G1 ds vs) : WalkD K (Itl K a) ds G1 anyM := fun G2 M2 H2 s h _ => by
  have hq2 : SqL K H2 a vs := h.sub.seq (s.seq hq)
  refine ⟨fun i hi => ?_, ⟨vs, hq2, by rw [hd.length]; exact Nat.le_refl _⟩, fun i x H' hi y => ?_⟩
  · obtain ⟨v, h1, _⟩ := hd.get (List.getElem?_eq_getElem hi)
    exact ⟨vs, v, hq2, h1⟩
  · obtain ⟨rfl, y2⟩ := y
    refine ⟨G2, Stp.refl, h, fun d hd' => ?_⟩
    obtain ⟨v, h1, h2⟩ := hd.get hd'
    have := y2 vs hq2
    rw [h1] at this; cases this
    exact h2.up s
theorem ei_list (h : EX X false e τ M (fun d M1 => ∃ ds, d = .lst ds ∧ PI' ds M1 anyM) E) : EI X tg e τ M PI' E := .mk fun W tk σ G H hE hH R hR hX => by
  refine tWI_of (pi_list pe_W) ?_
  refine h.run W tk σ G H hE hH _ ?_ hX
  intro d M1 v G1 H1 ⟨ds, ed, hp⟩ s1 h1 dv
  subst ed
  obtain ⟨a, vs, rfl, hq, hd⟩ := dv.lst_inv
  exact ⟨a, rfl, ⟨vs, h1.sub.seq (SqL.of hq)⟩, hR _ _ _ _ _ _ hp s1 h1 (walkD_list (SqL.of hq) hd)⟩
def rngD (lo : Int) (n : Nat) : List Dat := (List.range n).map fun (i : Nat) => .int (lo + (i : Int))
theorem rngD_length {lo : Int} {n : Nat} : (rngD lo n).length = n := by simp [rngD]
theorem rngD_get {lo : Int} {n i : Nat} {d : Dat} (h : (rngD lo n)[i]? = some d) : d = .int (lo + (i : Int)) ∧ i < n := by
  have hi : i < n := by have := (List.getElem?_eq_some_iff.mp h).1; rwa [rngD_length] at this
  unfold rngD at h
  rw [List.getElem?_map, List.getElem?_range hi] at h
  cases h
  exact ⟨rfl, hi⟩
theorem walkD_range {K : PySem.W.Frag} {G1 : Hp} {lo : Int} {n : Nat} : WalkD K (Itr lo n) (rngD lo n) G1 anyM := fun G2 M2 H2 s h _ => by
  rw [rngD_length]
  refine ⟨fun i hi => hi, Nat.le_refl _, fun i x H' hi y => ?_⟩
  obtain ⟨rfl, rfl⟩ := y
  refine ⟨G2, Stp.refl, h, fun d hd => ?_⟩
  rw [(rngD_get hd).1]; exact den_int
/-- range(n) -/
theorem ei_range1 (hm : X.mg "range" = none) (h : EX X false a τ M (fun d M1 => ∃ j, d = .int j ∧ (-(2 ^ 62) ≤ j ∧ j < 2 ^ 62) ∧ PI' (rngD 0 j.toNat) M1 anyM) E) (hg : Gl X "range" := by rfl) (hs : starEach [a] X.env = [(false, eval a X.env)] := by rfl) : EI X tg (.Call (.Name "range" p) [a] [] pos) τ M PI' E := .mk fun W tk σ G H hE hH R hR hX => by
  refine tWI_of (pi_range1 hg hm (pa_cons pe_W pa_nil hs) hs) ?_
  refine h.run W tk σ G H hE hH _ ?_ hX
  intro d M1 v G1 H1 ⟨j, ed, hb, hp⟩ s1 h1 dv
  subst ed
  exact ⟨j, by rw [dv.int_inv], hb.1, hb.2, hR _ _ _ _ _ _ hp s1 h1 walkD_range⟩
theorem ei_range2 (hm : X.mg "range" = none) (h : EX X false a τ M (fun d M1 => EX X false b τ M1 (fun d2 M2 => ∃ i j, d = .int i ∧ d2 = .int j ∧ (-(2 ^ 62) ≤ i ∧ i < 2 ^ 62 ∧ -(2 ^ 62) ≤ j ∧ j < 2 ^ 62) ∧ PI' (rngD i (j - i).toNat) M2 anyM) E) E) (hg : Gl X "range" := by rfl)
    (hs : starEach [a, b] X.env = [(false, eval a X.env), (false, eval b X.env)] := by rfl) (hs2 : starEach [b] X.env = [(false, eval b X.env)] := by rfl) : EI X tg (.Call (.Name "range" p) [a, b] [] pos) τ M PI' E := .mk fun W tk σ G H hE hH R hR hX => by
  refine tWI_of (pi_range2 hg hm (pa_cons pe_W (pa_cons pe_W pa_nil hs2) (by rw [hs, hs2])) hs hs2) ?_
  refine h.run W tk σ G H hE hH _ ?_ hX
  intro d M1 v G1 H1 hb s1 h1 dv
  refine hb.run W tk σ G1 H1 (hE.up s1.gg) h1 _ ?_ (hX.step s1)
  intro d2 M2 v2 G2 H2 ⟨i, j, ed, ed2, hrg, hp⟩ s2 h2 dv2
  subst ed; subst ed2
  exact ⟨i, j, by rw [dv.int_inv, dv2.int_inv], hrg, hR _ _ _ _ _ _ hp (s1.trans s2) h2 walkD_range⟩
/-- range(a, b, c), c above 0 -/
def rngC (lo c : Int) (n : Nat) : List Dat := (List.range n).map fun (i : Nat) => .int (lo + (i : Int) * c)
theorem rngC_length {lo c : Int} {n : Nat} : (rngC lo c n).length = n := by simp [rngC]
theorem rngC_get {lo c : Int} {n i : Nat} {d : Dat} (h : (rngC lo c n)[i]? = some d) : d = .int (lo + (i : Int) * c) ∧ i < n := by
  have hi : i < n := by have := (List.getElem?_eq_some_iff.mp h).1; rwa [rngC_length] at this
  unfold rngC at h
  rw [List.getElem?_map, List.getElem?_range hi] at h
  cases h
  exact ⟨rfl, hi⟩
theorem walkD_rangeC {K : PySem.W.Frag} {G1 : Hp} {lo c : Int} {n : Nat} : WalkD K (Itc lo c n) (rngC lo c n) G1 anyM := fun G2 M2 H2 s h _ => by
  rw [rngC_length]
  refine ⟨fun i hi => hi, Nat.le_refl _, fun i x H' hi y => ?_⟩
  obtain ⟨rfl, rfl⟩ := y
  refine ⟨G2, Stp.refl, h, fun d hd => ?_⟩
  rw [(rngC_get hd).1]; exact den_int
/-- a text, sign by sign -/
def sgnD (z : Str) : List Dat := z.cps.toList.map fun c => .str ⟨#[c]⟩
theorem walkD_str {K : PySem.W.Frag} {G1 : Hp} {z : Str} : WalkD K (Its z) (sgnD z) G1 anyM := fun G2 M2 H2 s h _ => by
  have hl : (sgnD z).length = z.cps.size := by simp [sgnD]
  rw [hl]
  refine ⟨fun i hi => hi, Nat.le_refl _, fun i x H' hi y => ?_⟩
  obtain ⟨rfl, c, h1, rfl⟩ := y
  refine ⟨G2, Stp.refl, h, fun d hd => ?_⟩
  unfold sgnD at hd
  rw [List.getElem?_map, Array.getElem?_toList, h1] at hd
  cases hd
  exact den_str
theorem ei_str (h : EX X false e τ M (fun d M1 => ∃ z, d = .str z ∧ PI' (sgnD z) M1 anyM) E) : EI X tg e τ M PI' E := .mk fun W tk σ G H hE hH R hR hX => by
  refine tWI_of (pi_str pe_W) ?_
  refine h.run W tk σ G H hE hH _ ?_ hX
  intro d M1 v G1 H1 ⟨z, ed, hp⟩ s1 h1 dv
  subst ed
  exact ⟨z, dv.str_inv, hR _ _ _ _ _ _ hp s1 h1 walkD_str⟩
/-- enumerate(list) -/
def enuD (ds : List Dat) : List Dat := ds.zipIdx.map fun q => .tup [.int (q.2 : Int), q.1]
theorem enuD_length {ds : List Dat} : (enuD ds).length = ds.length := by simp [enuD]
theorem enuD_get {ds : List Dat} {i : Nat} {d : Dat} (h : (enuD ds)[i]? = some d) : ∃ x, ds[i]? = some x ∧ d = .tup [.int (i : Int), x] := by
  unfold enuD at h
  rw [List.getElem?_map, List.getElem?_zipIdx] at h
  cases e : ds[i]? with
  | none => rw [e] at h; cases h
  | some x => rw [e] at h; simp at h; exact ⟨x, rfl, h.symm⟩
theorem walkD_enum {K : PySem.W.Frag} {G1 : Hp} {a : Addr} {vs : List V} {ds : List Dat} (hq : SqL K G1 a vs) (hd : DenL K G1 ds vs) : WalkD K (Ite K a) (enuD ds) G1 anyM := fun G2 M2 H2 s h _ => by
  have hq2 : SqL K H2 a vs := h.sub.seq (s.seq hq)
  rw [enuD_length]
  refine ⟨fun i hi => ?_, ⟨vs, hq2, by rw [hd.length]; exact Nat.le_refl _⟩, fun i x H' hi y => ?_⟩
  · obtain ⟨v, h1, _⟩ := hd.get (List.getElem?_eq_getElem hi)
    exact ⟨vs, v, hq2, h1⟩
  · obtain ⟨T, x', rfl, hT, rfl, y2⟩ := y
    obtain ⟨s3, h3⟩ := Stp.new (o := .tup [.int (i : Nat), x']) h hT
    refine ⟨_, s3, h3, fun d hd' => ?_⟩
    obtain ⟨z, hz, rfl⟩ := enuD_get hd'
    obtain ⟨v, h1, h2⟩ := hd.get hz
    have := y2 vs hq2
    rw [h1] at this; cases this
    exact den_tup upd_same (.cons den_int (.cons ((h2.up s).up s3.gg) .nil))
theorem ei_enum {elts : List Expr} {kk : Nat} {tpos : Pos} (hm : X.mg "enumerate" = none) (h : EX X false e τ M (fun d M1 => ∃ ds, d = .lst ds ∧ PI' (enuD ds) M1 anyM) E) (hg : Gl X "enumerate" := by rfl) (hs : starEach [e] X.env = [(false, eval e X.env)] := by rfl) : EI X (.Tuple elts kk tpos) (.Call (.Name "enumerate" p) [e] [] pos) τ M PI' E := .mk fun W tk σ G H hE hH R hR hX => by
  refine tWI_of (pi_enum hg hm (pa_cons pe_W pa_nil hs) hs) ?_
  refine h.run W tk σ G H hE hH _ ?_ hX
  intro d M1 v G1 H1 ⟨ds, ed, hp⟩ s1 h1 dv
  subst ed
  obtain ⟨a, vs, rfl, hq, hd⟩ := dv.lst_inv
  exact ⟨a, vs, rfl, h1.sub.seq (SqL.of hq), hR _ _ _ _ _ _ hp s1 h1 (walkD_enum (SqL.of hq) hd)⟩

/-! ### for -/
theorem s_for {body : List Stmt} {σ : L2.St} {H : Hp} {D : Ends} (hp : PassesOwn (model X.prog X.w) X.A X.env X.xe) (hc : X.calm = true) (hs : ∀ x, foldedSetIterable iter X.env x = pure x)
    (q : tWI X false tg iter σ H fun J H1 => ∃ Wm : Nat → Nat → L2.St → Hp → Prop, (∃ m, Wm 0 m σ H1) ∧ ∀ i m σ H, Wm i m σ H →
      (J.stop i H ∧ D.nx σ H) ∨ (J.go i H ∧ ∃ N : L2.St → Hp → Prop, (∀ σ' H', N σ' H' → ∃ m', m' < m ∧ Wm (i + 1) m' σ' H') ∧ ∀ x H', J.yld i H x H' → tWG X T tg x σ H' fun σ2 H2 => tWSs X T body { D with nx := N, ct := N, bk := D.nx } σ2 H2)) :
    tWS X T (.For tg iter body [] pos) D σ H := fun pins s k0 I => by
  refine wpAny_For (thnT k0 (q pins s tk_f I) fun v s1 k1 h1 => thnT k1 h1 fun itv s2 k2 h2 => ?_) hs
  obtain ⟨it, fp, tn, J, H2, e, I2, Tu, st2, f2, Wm, ⟨m0, w0⟩, turn⟩ := h2
  subst e
  have stat : ∀ {H' : Hp}, (∀ b ∈ fp, H' b = none) → ∀ b ∈ fp, FpOk X pins H' b := fun hn b hb => ⟨hn b hb, (f2 b hb).2⟩
  refine codeAny_forLoop_any (fun n s' => Tk T s' ∧ ∃ i σ' H', Inv X pins σ' H' s' ∧ tn i s'.heap ∧ (∀ b ∈ fp, H' b = none) ∧ Wm i n σ' H') ?_ m0 ⟨k2, 0, σ, H2, I2, st2, fun b hb => (f2 b hb).1, w0⟩
  rintro n s3 ⟨k3, i, σ3, H3, I3, st3, fr3, w3⟩
  rcases turn i n σ3 H3 w3 with ⟨stop, qn⟩ | ⟨go, N, hN, step⟩
  · refine wpAny_passesOwn hp (thn (Tu.done X rfl rfl rfl hc i pins s3 σ3 H3 X.xe I3 (stat fr3) st3 stop) fun r s4 ⟨hr, I4⟩ => ?_)
    subst hr
    exact wpAny_execs_nil ⟨σ3, H3, I4, qn⟩
  · refine wpAny_passesOwn hp (thnT k3 (Tu.item X rfl rfl rfl hc i pins s3 σ3 H3 X.xe I3 (stat fr3) st3 go) fun r s4 k4 ⟨u, hr, h4⟩ => ?_)
    subst hr
    refine wpAny_passesOwn hp (thnT k4 h4 fun _ s5 k5 ⟨x, H5, I5, r5, y5, st5, fr5⟩ => ?_)
    have J5 := I5.pinned (stat fr5) (Tu.obj _ _ st5)
    refine wpAny_passesOwn hp (thnT k5 (step x H5 y5 _ s5 u k5 J5 r5) fun _ s6 k6 ⟨σ6, H6, I6, q6⟩ => ?_)
    refine wpAny_passesOwn hp (thnT k6 (q6 _ s6 k6 I6) fun f s7 k7 q7 => ?_)
    have pinA : ∀ {σ7 : L2.St} {H7 : Hp}, Inv X (pins ++ pinsAt fp s5.heap) σ7 H7 s7 → ∀ b ∈ fp, ∀ o, s5.heap.get? b = some o → s7.heap.get? b = some o ∧ H7 b = none := fun {σ7 H7} I7 b hb o e =>
      have z := I7.pin (b, o) (List.mem_append_right _ (List.mem_append_right _ (mem_pinsAt hb e)))
      ⟨z.1, z.2.1⟩
    have again : ∀ {σ7 : L2.St} {H7 : Hp}, Inv X (pins ++ pinsAt fp s5.heap) σ7 H7 s7 → N σ7 H7 → ∃ m, m < n ∧ (Tk T s7 ∧ ∃ i σ' H', Inv X pins σ' H' s7 ∧ tn i s7.heap ∧ (∀ b ∈ fp, H' b = none) ∧ Wm i m σ' H') := fun {σ7 H7} I7 n7 => by
      obtain ⟨m', hm, w7⟩ := hN σ7 H7 n7
      refine ⟨m', hm, k7, i + 1, σ7, H7, I7.unpinned, Tu.keep _ _ _ st5 fun b hb o e => (pinA I7 b hb o e).1, fun b hb => ?_, w7⟩
      obtain ⟨o, e, d⟩ := Tu.obj _ _ st5 b hb
      exact (pinA I7 b hb o e).2
    cases f with
    | next => obtain ⟨σ7, H7, I7, n7⟩ := q7; exact again I7 n7
    | cont => obtain ⟨σ7, H7, I7, n7⟩ := q7; exact again I7 n7
    | brk => obtain ⟨σ7, H7, I7, q7⟩ := q7; exact ⟨σ7, H7, I7.unpinned, q7⟩
    | ret u' => obtain ⟨v7, σ7, H7, I7, r7, q7⟩ := q7; exact ⟨v7, σ7, H7, I7.unpinned, r7, q7⟩
theorem ws_for {body rest : List Stmt} {R : RK} (hi : EI X tg iter τ M (fun ds M1 Ok => ∃ I : Nat → TEnv → Mem → Prop, I 0 τ M1 ∧ (∀ i τ M, I i τ M → Ok M) ∧
      (∀ i d τ M, ds[i]? = some d → I i τ M → GX X T tg d τ M (fun τ2 M2 => WS X T body τ2 M2 (loopR (I (i + 1)) (fun τ M => WS X T rest τ M R) R)) (fun x M2 => R (.ex x τ) M2)) ∧
      (∀ τ M, I ds.length τ M → WS X T rest τ M R)) (fun x M1 => R (.ex x τ) M1))
    (hp : PassesOwn (model X.prog X.w) X.A X.env X.xe := by first | exact PassesOwn.never | exact passes_of rfl | assumption) (hc : X.calm = true := by rfl) (hs : ∀ x, foldedSetIterable iter X.env x = pure x := by intro _; rfl) : WS X T (.For tg iter body [] pos :: rest) τ M R := .mk fun W tk σ G H hE hH D hR => by
  refine ws_step' (s_for hp hc hs ?_)
  refine hi.run W tk σ G H hE hH _ ?_ (ex_out hR hE)
  intro J ds M1 G1 H1 Ok ⟨I, h0, hOk, hb, hd⟩ s1 h1 w
  let Pv : Nat → L2.St → Hp → Prop := fun i σ' H' => ∃ τ' M' G', I i τ' M' ∧ DenE X.K τ' G' σ' ∧ Hst X.K G' M' H' ∧ Stp G M H G' M' H' ∧ Same G1 G'
  refine ⟨fun i m σ' H' => m = ds.length - i ∧ i ≤ ds.length ∧ Pv i σ' H', ⟨_, rfl, Nat.zero_le _, τ, M1, G1, h0, hE.up s1.gg, h1, s1, Same.refl _⟩, ?_⟩
  rintro i m σ' H' ⟨rfl, hle, τ', M', G', hI, e', h', s', g'⟩
  obtain ⟨w1, w2, w3⟩ := w G' M' H' g' h' (hOk _ _ _ hI)
  by_cases hlt : i < ds.length
  · refine .inr ⟨w1 i hlt, fun σ2 H2 => Pv (i + 1) σ2 H2, fun σ2 H2 q => ⟨ds.length - (i + 1), by omega, rfl, hlt, q⟩, fun x H2 y => ?_⟩
    obtain ⟨G2, s2, h2, dx⟩ := w3 i x H2 hlt y
    have hd' := List.getElem?_eq_getElem hlt
    refine (hb i _ τ' M' hd' hI).run W tk σ' G2 H2 x (e'.up s2.gg) h2 (dx _ hd') _ ?_ ?_
    · intro τ3 M3 G3 H3 σ3 b3 s3 h3 e3
      refine b3.run W tk σ3 G3 H3 e3 h3 _ ?_
      intro o M4 G4 H4 r4 s4 h4
      have st := ((s'.trans s2).trans s3).trans s4
      cases o with
      | nx τ4 => exact fun σ4 e4 => ⟨τ4, M4, G4, r4, e4, h4, st, ((g'.trans s2.gg).trans s3.gg).trans s4.gg⟩
      | ct τ4 => exact fun σ4 e4 => ⟨τ4, M4, G4, r4, e4, h4, st, ((g'.trans s2.gg).trans s3.gg).trans s4.gg⟩
      | bk τ4 => exact fun σ4 e4 => r4.run W tk σ4 G4 H4 e4 h4 D (hR.step st)
      | rt d4 => exact hR _ _ _ _ r4 st h4
      | ex x4 τ4 => exact hR _ _ _ _ r4 st h4
    · exact fun x4 M4 G4 H4 d4 r4 s4 h4 dx4 => hR _ _ _ _ r4 ((s'.trans s2).trans s4) h4 σ' d4 ((e'.up s2.gg).up s4.gg) dx4
  · have e : i = ds.length := by omega
    subst e
    exact .inl ⟨w2, (hd τ' M' hI).run W tk σ' G' H' e' h' D (hR.step s')⟩

/-! ### while -/
/-! ### targets of several names -/
theorem pgs_W {ts : List Expr} : PGs X ts (tWGs X false ts) := ⟨fun pins s σ H vs us Q I r h => h pins s us tk_f I r⟩
structure GXs (X : Cx) (T : Bool) (ts : List Expr) (ds : List Dat) (τ : TEnv) (M : Mem) (P : TEnv → Mem → Prop) : Prop where
  run : ∀ W, Takes X W → ∀ σ G H vs, DenE X.K τ G σ → Hst X.K G M H → DenL X.K G ds vs → ∀ Q, CG' X.K G M H P Q → tWGs X T ts vs σ H Q
theorem gxs_nil {P : TEnv → Mem → Prop} (h : P τ M) : GXs X false [] [] τ M P := .mk fun W tk σ G H vs hE hH dv Q hP pins s us _ I r => by
  rw [dv.nil_inv] at r
  exact pgs_nil.run pins s σ H [] us Q I r ⟨rfl, hP _ _ _ _ _ h Stp.refl hH hE⟩
theorem gxs_cons {t : Expr} {ts : List Expr} {d : Dat} {ds : List Dat} {P : TEnv → Mem → Prop} (h : GX X false t d τ M (fun τ1 M1 => GXs X false ts ds τ1 M1 P) E0')
    (he : (assignEach (t :: ts) X.env).map (·.2) = assign t X.env :: (assignEach ts X.env).map (·.2) := by rfl) : GXs X false (t :: ts) (d :: ds) τ M P := .mk fun W tk σ G H vs hE hH dv Q hP pins s us _ I r => by
  obtain ⟨v, vr, rfl, d1, d2⟩ := dv.cons_inv
  refine (pgs_cons pg_W pgs_W he).run pins s σ H _ us Q I r ⟨v, vr, rfl, ?_⟩
  exact h.run W tk σ G H v hE hH d1 _ (fun τ2 M2 G2 H2 σ2 p2 s2 h2 e2 => p2.run W tk σ2 G2 H2 vr e2 h2 (d2.up s2.gg) Q (hP.step s2)) noX
theorem gx_tup {es : List Expr} {k : Nat} {ds : List Dat} {P : TEnv → Mem → Prop} (h : GXs X false es ds τ M P) (hl : ds.length = (assignEach es X.env).length := by rfl) (hc : X.calm = true := by rfl)
    (hst : (assignEach es X.env).findIdx? (·.1) = none := by rfl) : GX X T (.Tuple es k pos) (.tup ds) τ M P E := .mk fun W tk σ G H v hE hH dv Q hP hX => by
  obtain ⟨a, vs, rfl, hq, hd⟩ := dv.tup_inv
  exact tWG_of (pg_tup hc pgs_W rfl hst) ⟨a, vs, rfl, Same.tpl hH.sub (SqT.of hq), by rw [hd.length, hl], h.run W tk σ G H vs hE hH hd Q hP⟩
end
end Kh

set_option Elab.async false
set_option linter.all false
set_option maxRecDepth 100000
set_option maxHeartbeats 1000000
namespace Kh
open PySem PySem.Spec L2

/-! ### slots that a comprehension wipes -/
theorem wipe_get {σ : L2.St} : ∀ {vs : List Nat} {j : Nat}, (wipe σ vs)[j]? = if j ∈ vs ∧ j < σ.length then some none else σ[j]?
  | [], j => by simp [wipe]
  | v :: vs, j => by
    show ((wipe σ vs).set v none)[j]? = _
    by_cases h : v = j
    · subst h
      by_cases hl : v < σ.length
      · rw [List.getElem?_set_self (by rw [wipe_length]; exact hl), if_pos ⟨List.mem_cons_self, hl⟩]
      · rw [if_neg (fun z => hl z.2), List.getElem?_eq_none (by rw [List.length_set, wipe_length]; omega), List.getElem?_eq_none (by omega)]
    · rw [List.getElem?_set_ne h, wipe_get]
      by_cases hm : j ∈ vs
      · simp [hm]
      · have : ¬ j ∈ v :: vs := fun z => (List.mem_cons.mp z).elim (fun e => h e.symm) hm
        simp [hm, this]
theorem wipe_ext {σ σ' : L2.St} {vs : List Nat} (hl : σ'.length = σ.length) (h : ∀ j, j ∉ vs → σ'[j]? = σ[j]?) : wipe σ' vs = wipe σ vs := by
  apply List.ext_getElem?
  intro j
  rw [wipe_get, wipe_get, hl]
  by_cases c : j ∈ vs ∧ j < σ.length
  · rw [if_pos c, if_pos c]
  · rw [if_neg c, if_neg c]
    by_cases m : j ∈ vs
    · have : ¬ j < σ.length := fun z => c ⟨m, z⟩
      rw [List.getElem?_eq_none (by omega), List.getElem?_eq_none (by omega)]
    · exact h j m
theorem wipe_wipe {σ : L2.St} {vs : List Nat} : wipe (wipe σ vs) vs = wipe σ vs := wipe_ext (wipe_length σ vs) fun j hj => by
  rw [wipe_get, if_neg (fun z => hj z.1)]
/-- the data of the slots that a comprehension wipes -/
def wipeT (τ : TEnv) : List Nat → TEnv
  | [] => τ
  | v :: vs => (wipeT τ vs).set v none
theorem denE_wipe {K : PySem.W.Frag} {G : Hp} {τ : TEnv} {σ : L2.St} (h : DenE K τ G σ) : ∀ (vs : List Nat), DenE K (wipeT τ vs) G (wipe σ vs)
  | [] => h
  | v :: vs => fun j d e => by
    have e' : ((wipeT τ vs).set v none)[j]? = some (some d) := e
    show ∃ u, ((wipe σ vs).set v none)[j]? = some (some u) ∧ _
    by_cases c : v = j
    · subst c
      by_cases hl : v < (wipeT τ vs).length
      · rw [List.getElem?_set_self hl] at e'; cases e'
      · rw [List.getElem?_eq_none (by simpa using hl)] at e'; cases e'
    · rw [List.getElem?_set_ne c] at e' ⊢
      exact denE_wipe h vs j d e'

/-! ### a comprehension's block -/
abbrev Cx.Bk (X : Cx) (scope : Scope) (s : Shared) (H : Hp) (C : Addr) (cl : List (Str × Addr)) (fp : List Addr) : Cx := X.blk s H scope (compEnvC scope cl C X.env) fp
/-- a store at a comprehension's target: slots of vs alone change -/
def GC (X : Cx) (vs : List Nat) (tg : Expr) (d : Dat) (τ : TEnv) (M : Mem) (P : TEnv → Mem → Prop) : Prop :=
  ∀ σ G H v, DenE X.K τ G σ → Hst X.K G M H → Den X.K G d v → ∀ Q, (∀ τ' M' G' H' σ', P τ' M' → Stp G M H G' M' H' → Hst X.K G' M' H' → DenE X.K τ' G' σ' → σ'.length = σ.length → (∀ j, j ∉ vs → σ'[j]? = σ[j]?) → Q σ' H') → tWG X false tg v σ H Q
def GCs (X : Cx) (vs : List Nat) (ts : List Expr) (ds : List Dat) (τ : TEnv) (M : Mem) (P : TEnv → Mem → Prop) : Prop :=
  ∀ σ G H ws, DenE X.K τ G σ → Hst X.K G M H → DenL X.K G ds ws → ∀ Q, (∀ τ' M' G' H' σ', P τ' M' → Stp G M H G' M' H' → Hst X.K G' M' H' → DenE X.K τ' G' σ' → σ'.length = σ.length → (∀ j, j ∉ vs → σ'[j]? = σ[j]?) → Q σ' H') → tWGs X false ts ws σ H Q
section
variable {X : Cx} {T : Bool} {tg iter elt e a b c : Expr} {τ : TEnv} {M : Mem} {E : XKx} {pos p : Pos} {vs : List Nat} {P : PK'}
theorem gc_name {x : Str} {d : Dat} {P : TEnv → Mem → Prop} (h : P (τ.set (ixIn X.N x) (some d)) M) (hv : ixIn X.N x ∈ vs := by first | decide | exact of_decide_eq_true (by kernel_rfl)) (hi : X.N[ixIn X.N x]? = some x := by rfl) (hx : Loc X.env.scope x := by first | exact Or.inl rfl | exact Or.inr rfl) (hN : X.N.Nodup := by first | decide +kernel | exact of_decide_eq_true (by kernel_rfl))
    (hf : X.fn x = true ∨ X.env.scope.names.lookup x = some .local := by first | exact .inl rfl | exact .inr rfl | assumption) : GC X vs (.Name x p) d τ M P := fun σ G H v hE hH dv Q hQ => tWG_len fun hl => by
  refine tWG_of (pg_name hN hi hx hf) ?_
  have hlt : ixIn X.N x < σ.length := by rw [hl]; exact (List.getElem?_eq_some_iff.mp hi).1
  exact hQ _ _ _ _ _ h Stp.refl hH (hE.set hlt dv) (List.length_set) fun j hj => List.getElem?_set_ne (fun z => hj (by rw [← z]; exact hv))
theorem gcs_nil {P : TEnv → Mem → Prop} (h : P τ M) : GCs X vs [] [] τ M P := fun σ G H ws hE hH dv Q hQ pins s us _ I r => by
  rw [dv.nil_inv] at r
  exact pgs_nil.run pins s σ H [] us Q I r ⟨rfl, hQ _ _ _ _ _ h Stp.refl hH hE rfl fun _ _ => rfl⟩
theorem gcs_cons {t : Expr} {ts : List Expr} {d : Dat} {ds : List Dat} {P : TEnv → Mem → Prop} (h : GC X vs t d τ M (fun τ1 M1 => GCs X vs ts ds τ1 M1 P))
    (he : (assignEach (t :: ts) X.env).map (·.2) = assign t X.env :: (assignEach ts X.env).map (·.2) := by rfl) : GCs X vs (t :: ts) (d :: ds) τ M P := fun σ G H ws hE hH dv Q hQ pins s us _ I r => by
  obtain ⟨v, vr, rfl, d1, d2⟩ := dv.cons_inv
  refine (pgs_cons pg_W pgs_W he).run pins s σ H _ us Q I r ⟨v, vr, rfl, ?_⟩
  refine h σ G H v hE hH d1 _ (fun τ2 M2 G2 H2 σ2 p2 s2 h2 e2 l2 k2 => p2 σ2 G2 H2 vr e2 h2 (d2.up s2.gg) Q (fun τ3 M3 G3 H3 σ3 p3 s3 h3 e3 l3 k3 => hQ _ _ _ _ _ p3 (s2.trans s3) h3 e3 (l3.trans l2) fun j hj => (k3 j hj).trans (k2 j hj)))
theorem gc_tup {es : List Expr} {k : Nat} {ds : List Dat} {P : TEnv → Mem → Prop} (h : GCs X vs es ds τ M P) (hl : ds.length = (assignEach es X.env).length := by rfl) (hc : X.calm = true := by rfl)
    (hst : (assignEach es X.env).findIdx? (·.1) = none := by rfl) : GC X vs (.Tuple es k pos) (.tup ds) τ M P := fun σ G H v hE hH dv Q hQ => by
  obtain ⟨a, ws, rfl, hq, hd⟩ := dv.tup_inv
  exact tWG_of (pg_tup hc pgs_W rfl hst) ⟨a, ws, rfl, Same.tpl hH.sub (SqT.of hq), by rw [hd.length, hl], h σ G H ws hE hH hd Q hQ⟩
/-- the tests of a clause -/
def tWIf (X : Cx) (ifs : List Expr) : TT := fun σ H Q => ∀ pins s, Inv X pins σ H s →
    wpAny (model X.prog X.w) X.A (forIn ifs true fun c r => if r = true then do let ok ← isTrue c X.env (eval c X.env); pure (ForInStep.yield ok) else pure (ForInStep.yield r)) (TP X pins σ Q) X.xe s
def EFs (X : Cx) (ifs : List Expr) (τ : TEnv) (M : Mem) (P : Bool → Mem → Prop) : Prop :=
  ∀ σ G H, DenE X.K τ G σ → Hst X.K G M H → ∀ Q, CT' X.K G M H P Q → tWIf X ifs σ H Q
theorem ef_nil {P : Bool → Mem → Prop} (h : P true M) : EFs X [] τ M P := fun σ G H hE hH Q hQ pins s I => pts_nil.run pins s σ H Q I (hQ _ _ _ _ h Stp.refl hH)
theorem ef_one {P : Bool → Mem → Prop} (h : ET X false c τ M P E0') : EFs X [c] τ M P := fun σ G H hE hH Q hQ pins s I => (pts_one pt_W).run pins s σ H Q I (h.run _ takes0 σ G H hE hH Q hQ noX)

def gFam (X : Cx) (scope : Scope) (tg : Expr) : TG := fun v σ H Q => ∀ (s : Shared) (H0 : Hp) (C : Addr) (cl : List (Str × Addr)) (fp : List Addr), tWG (Cx.Bk X scope s H0 C cl fp) false tg v σ H Q
def iFam (X : Cx) (scope : Scope) (ifs : List Expr) : TT := fun σ H Q => ∀ (s : Shared) (H0 : Hp) (C : Addr) (cl : List (Str × Addr)) (fp : List Addr), tWIf (Cx.Bk X scope s H0 C cl fp) ifs σ H Q
def eFam (X : Cx) (scope : Scope) (elt : Expr) : TE := fun σ H Q => ∀ (s : Shared) (H0 : Hp) (C : Addr) (cl : List (Str × Addr)) (fp : List Addr), tW (Cx.Bk X scope s H0 C cl fp) false elt σ H Q
theorem pg_fam {scope : Scope} (s : Shared) (H0 : Hp) (C : Addr) (cl : List (Str × Addr)) (fp : List Addr) : PG (Cx.Bk X scope s H0 C cl fp) tg (gFam X scope tg) := ⟨fun pins s' σ H' v u Q I r q => q s H0 C cl fp pins s' u tk_f I r⟩
theorem pt_fam {scope : Scope} {ifs : List Expr} (s : Shared) (H0 : Hp) (C : Addr) (cl : List (Str × Addr)) (fp : List Addr) : PTs (Cx.Bk X scope s H0 C cl fp) ifs (iFam X scope ifs) := ⟨fun pins s' σ H' Q I q => q s H0 C cl fp pins s' I⟩
theorem pe_fam {scope : Scope} (s : Shared) (H0 : Hp) (C : Addr) (cl : List (Str × Addr)) (fp : List Addr) : PE (Cx.Bk X scope s H0 C cl fp) elt (eFam X scope elt) := ⟨fun pins s' σ H' Q I q => q s H0 C cl fp pins s' tk_f I⟩
/-- the reading of a comprehension: the new list is P's -/
theorem lc_read {scope : Scope} (hi : EI X tg iter τ M (fun ds M1 Ok => ds.length ≤ sizeLine ∧ ∃ I : Nat → List Dat → Mem → Prop, I 0 [] M1 ∧ (∀ i acc M, I i acc M → Ok M) ∧
      (∀ i d acc M, ds[i]? = some d → I i acc M → ∀ (s : Shared) (H : Hp) (C : Addr) (cl : List (Str × Addr)) (fp : List Addr), GC (Cx.Bk X scope s H C cl fp) vs tg d (wipeT τ vs) M (fun τ2 M2 => ∀ (s : Shared) (H : Hp) (C : Addr) (cl : List (Str × Addr)) (fp : List Addr),
        EFs (Cx.Bk X scope s H C cl fp) ifs τ2 M2 (fun b M3 => (b = true → ∀ (s : Shared) (H : Hp) (C : Addr) (cl : List (Str × Addr)) (fp : List Addr), EX (Cx.Bk X scope s H C cl fp) false elt τ2 M3 (fun y M4 => I (i + 1) (acc ++ [y]) M4) E0') ∧ (b = false → I (i + 1) acc M3)))) ∧
      (∀ acc M, I ds.length acc M → P (.lst acc) M)) E)
    {W : WX} (tk : Takes X W) {σ : L2.St} {G H : Hp} (hE : DenE X.K τ G σ) (hH : Hst X.K G M H) {Q : VK} (hP : CE' X.K G M H P Q) (hX : CX' X.K G M H E (fun c d H2 => W c d σ H2)) :
    tLc (tWI X false tg iter) (gFam X scope tg) (iFam X scope ifs) (eFam X scope elt) vs σ H Q := by
  refine hi.run W tk σ G H hE hH _ ?_ hX
  intro J ds M1 G1 H1 Ok ⟨hz, I, h0, hOk, hb, hd⟩ s1 h1 w D hD
  have hDH : ∀ b o, b ∉ adr M → H b = some o → b ≠ D := fun b o n e z => by rw [← z, s1.hh b o n e] at hD; cases hD
  -- the new list at D, beside
  have gD : ∀ {G' H' : Hp} {M' : Mem}, Hst X.K G' M' H' → H' D ≠ none → True := fun _ _ => trivial
  let Pv : Nat → Hp → Prop := fun i H' => ∃ acc aV M' G', I i acc M' ∧ acc.length ≤ i ∧ Hst X.K G' M' H' ∧ Stp G M H G' M' H' ∧ Same G1 G' ∧ H' D = some (.lst aV) ∧ DenL X.K G' acc aV ∧ G' D = none ∧ D ∉ adr M'
  have laid : ∀ {G' H' : Hp} {M' : Mem} {xs : List V}, Hst X.K G' M' H' → G' D = none → D ∉ adr M' → Hst X.K G' M' (upd H' D (.lst xs)) := fun {G' H' M' xs} h g n =>
    ⟨fun b o e => by rw [upd_ne (fun z => by rw [z, g] at e; cases e)]; exact h.sub b o e, fun c hc => (h.mem c hc).up (Same.refl _) fun b hb o e => by rw [upd_ne (fun z => n (by rw [← z]; exact List.mem_flatMap.mpr ⟨c, hc, hb⟩))]; exact e, h.out, h.nd⟩
  have stp : ∀ {G' H' : Hp} {M' : Mem} {xs : List V}, Stp G M H G' M' H' → Stp G M H G' M' (upd H' D (.lst xs)) := fun {G' H' M' xs} s =>
    ⟨s.gg, fun b o n e => by rw [upd_ne (hDH b o n e)]; exact s.hh b o n e, s.fr, s.ad⟩
  have n0 : D ∉ adr M1 := fun z => h1.there D z hD
  have g0 : G1 D = none := h1.sub.free hD
  refine ⟨fun i m H' => m = ds.length - i ∧ i ≤ ds.length ∧ Pv i H', ⟨_, rfl, Nat.zero_le _, [], [], M1, G1, h0, Nat.zero_le _, laid h1 g0 n0, stp s1, Same.refl _, upd_same, .nil, g0, n0⟩, ?_⟩
  rintro i m H' ⟨rfl, hle, acc, aV, M', G', hI, hal, h', s', g', hDl, hda, hg', hn'⟩
  obtain ⟨w1, w2, w3⟩ := w G' M' H' g' h' (hOk _ _ _ hI)
  -- D through a step
  have thru : ∀ {G2 H2 : Hp} {M2 : Mem}, Stp G' M' H' G2 M2 H2 → H2 D = some (.lst aV) ∧ DenL X.K G2 acc aV ∧ G2 D = none ∧ D ∉ adr M2 := fun {G2 H2 M2} s =>
    ⟨s.hh D _ hn' hDl, hda.up s.gg, s.fr D (by rw [hDl]; exact fun z => nomatch z) hn' hg', fun z => (s.ad D z).elim hn' fun q => by rw [hDl] at q; cases q⟩
  by_cases hlt : i < ds.length
  · refine .inr ⟨w1 i hlt, fun H2 => Pv (i + 1) H2, fun H2 q => ⟨ds.length - (i + 1), by omega, rfl, hlt, q⟩, fun x H2 y => ?_⟩
    obtain ⟨G2, s2, h2, dx⟩ := w3 i x H2 hlt y
    have hd' := List.getElem?_eq_getElem hlt
    have eW : DenE X.K (wipeT τ vs) G2 (wipe σ vs) := denE_wipe ((hE.up s'.gg).up s2.gg) vs
    intro sA HA CA clA fpA
    refine hb i _ acc M' hd' hI sA HA CA clA fpA (wipe σ vs) G2 H2 x eW h2 (dx _ hd') _ ?_
    intro τ3 M3 G3 H3 σ3 p3 s3 h3 e3 l3 k3
    refine ⟨?_, fun sB HB CB clB fpB => ?_⟩
    · rw [wipe_ext l3 k3, wipe_wipe]
    refine p3 sB HB CB clB fpB σ3 G3 H3 e3 h3 _ ?_
    intro bb M4 G4 H4 ⟨p4, p4'⟩ s4 h4
    have s24 := (s2.trans s3).trans s4
    cases bb with
    | false =>
      refine iteF ?_
      obtain ⟨t1, t2, t3, t4⟩ := thru s24
      exact ⟨acc, aV, M4, G4, p4' rfl, by omega, h4, s'.trans s24, g'.trans s24.gg, t1, t2, t3, t4⟩
    | true =>
      refine iteT fun sC HC CC clC fpC => ?_
      refine (p4 rfl sC HC CC clC fpC).run _ takes0 σ3 G4 H4 (e3.up s4.gg) h4 _ ?_ noX
      intro y5 M5 v5 G5 H5 p5 s5 h5 d5
      have s25 := s24.trans s5
      obtain ⟨t1, t2, t3, t4⟩ := thru s25
      refine ⟨aV, t1, by rw [hda.length]; omega, acc ++ [y5], aV ++ [v5], M5, G5, p5, by rw [List.length_append]; simp; omega, laid h5 t3 t4, stp (s'.trans s25), g'.trans s25.gg, upd_same, t2.snoc d5, t3, t4⟩
  · have e : i = ds.length := by omega
    subst e
    refine .inl ⟨w2, ?_⟩
    have up : Same G' (upd G' D (.lst aV)) := fun b o e => by rw [upd_ne (ne_of_none e hg')]; exact e
    have hF : Hst X.K (upd G' D (.lst aV)) M' H' := ⟨fun b o e => by
      by_cases c : b = D
      · subst c; rw [upd_same] at e; cases e; exact hDl
      · rw [upd_ne c] at e; exact h'.sub b o e, fun c hc => (h'.mem c hc).up up fun _ _ _ e => e, fun b hb => by rw [upd_ne (fun z => hn' (by rw [← z]; exact hb))]; exact h'.out b hb, h'.nd⟩
    have sF : Stp G M H (upd G' D (.lst aV)) M' H' := ⟨s'.gg.trans up, s'.hh, fun b hb n g => by
      rw [upd_ne (fun z => ?_)]
      · exact s'.fr b hb n g
      · cases q : H b with
        | none => exact hb q
        | some o => exact hDH b o n q z, s'.ad⟩
    exact hP _ _ _ _ _ (hd acc M' hI) sF hF (den_lst upd_same (hda.up up))
theorem ex_lc {scope : Scope} {ifs : List Expr} (own : List (Str × Nat)) (h : EI X tg iter τ M (fun ds M1 Ok => ds.length ≤ sizeLine ∧ ∃ I : Nat → List Dat → Mem → Prop, I 0 [] M1 ∧ (∀ i acc M, I i acc M → Ok M) ∧
      (∀ i d acc M, ds[i]? = some d → I i acc M → ∀ (s : Shared) (H : Hp) (C : Addr) (cl : List (Str × Addr)) (fp : List Addr), GC (Cx.Bk X scope s H C cl fp) (own.map (·.2)) tg d (wipeT τ (own.map (·.2))) M (fun τ2 M2 => ∀ (s : Shared) (H : Hp) (C : Addr) (cl : List (Str × Addr)) (fp : List Addr),
        EFs (Cx.Bk X scope s H C cl fp) ifs τ2 M2 (fun b M3 => (b = true → ∀ (s : Shared) (H : Hp) (C : Addr) (cl : List (Str × Addr)) (fp : List Addr), EX (Cx.Bk X scope s H C cl fp) false elt τ2 M3 (fun y M4 => I (i + 1) (acc ++ [y]) M4) E0') ∧ (b = false → I (i + 1) acc M3)))) ∧
      (∀ acc M, I ds.length acc M → P (.lst acc) M)) E)
    (ok : BlkOk X.N X.env.scope scope own := by exact blkOk_by (by first | decide +kernel | kernel_rfl)) (hN : X.N.Nodup := by first | decide +kernel | exact of_decide_eq_true (by kernel_rfl)) (hc : X.calm = true := by rfl) (hs : ∀ x, foldedSetIterable iter X.env x = pure x := by intro _; rfl) :
    EX X T (.ListComp elt [⟨tg, iter, ifs, 0⟩] scope pos) τ M P E := .mk fun W tk σ G H hE hH Q hP hX =>
  tW_of (pe_lc hc hN pi_W ok pg_fam pt_fam pe_fam hs) (lc_read h tk hE hH hP hX)
theorem ws_setLc {x : Str} {px : Pos} {scope : Scope} {ifs : List Expr} {lpos : Pos} {rest : List Stmt} {R : RK} (own : List (Str × Nat)) (h : EI X tg iter τ M (fun ds M1 Ok => ds.length ≤ sizeLine ∧ ∃ I : Nat → List Dat → Mem → Prop, I 0 [] M1 ∧ (∀ i acc M, I i acc M → Ok M) ∧
      (∀ i d acc M, ds[i]? = some d → I i acc M → ∀ (s : Shared) (H : Hp) (C : Addr) (cl : List (Str × Addr)) (fp : List Addr), GC (Cx.Bk X scope s H C cl fp) (own.map (·.2)) tg d (wipeT τ (own.map (·.2))) M (fun τ2 M2 => ∀ (s : Shared) (H : Hp) (C : Addr) (cl : List (Str × Addr)) (fp : List Addr),
        EFs (Cx.Bk X scope s H C cl fp) ifs τ2 M2 (fun b M3 => (b = true → ∀ (s : Shared) (H : Hp) (C : Addr) (cl : List (Str × Addr)) (fp : List Addr), EX (Cx.Bk X scope s H C cl fp) false elt τ2 M3 (fun y M4 => I (i + 1) (acc ++ [y]) M4) E0') ∧ (b = false → I (i + 1) acc M3)))) ∧
      (∀ acc M, I ds.length acc M → WS X T rest (τ.set (ixIn X.N x) (some (.lst acc))) M R)) (fun x M1 => R (.ex x τ) M1))
    (hi : X.N[ixIn X.N x]? = some x := by rfl) (hyl : X.env.scope.names.lookup x = some .local := by rfl) (hsw : swapsWith (.ListComp elt [⟨tg, iter, ifs, 0⟩] scope lpos) (some (.Name x px)) pos.line X.env = pure true := by exact sw_true rfl rfl rfl (by first | decide +kernel | kernel_rfl))
    (ok : BlkOk X.N X.env.scope scope own := by exact blkOk_by (by first | decide +kernel | kernel_rfl)) (hN : X.N.Nodup := by first | decide +kernel | exact of_decide_eq_true (by kernel_rfl)) (hc : X.calm = true := by rfl) (hs : ∀ x, foldedSetIterable iter X.env x = pure x := by intro _; rfl) :
    WS X T (.Assign [.Name x px] (.ListComp elt [⟨tg, iter, ifs, 0⟩] scope lpos) pos :: rest) τ M R := .mk fun W tk σ G H hE hH D hR => tWSs_len fun hl => by
  refine ws_step (ps_setLc hc hN hi hyl hsw pi_W ok pg_fam pt_fam pe_fam hs) ?_
  have hlt : ixIn X.N x < σ.length := by rw [hl]; exact (List.getElem?_eq_some_iff.mp hi).1
  exact lc_read (P := fun d M => ∃ acc, d = .lst acc ∧ WS X T rest (τ.set (ixIn X.N x) (some (.lst acc))) M R) (.mk fun W' tk' σ' G' H' hE' hH' R' hR' hX' => h.run W' tk' σ' G' H' hE' hH' R' (fun J ds M1 G1 H1 Ok ⟨hz, I, i1, i2, i3, i4⟩ => hR' J ds M1 G1 H1 Ok ⟨hz, I, i1, i2, i3, fun acc M hi => ⟨acc, rfl, i4 acc M hi⟩⟩) hX') tk hE hH
    (fun d M2 v G2 H2 ⟨acc, ed, r⟩ s h2 dv => by subst ed; exact r.run W tk _ G2 H2 ((hE.up s.gg).set hlt dv) h2 D (hR.step s)) (ex_out hR hE)
end
end Kh

set_option Elab.async false
set_option linter.all false
set_option maxRecDepth 100000
set_option maxHeartbeats 1000000
namespace Kh
open PySem PySem.Spec L2

section
variable {X : Cx} {T : Bool} {τ : TEnv} {M : Mem} {P : PK'} {E : XKx} {e a b c o : Expr} {es : List Expr} {pos apos : Pos} {R : RK} {rest : List Stmt}
theorem EX.t (h : EX X false e τ M P E) : EX X T e τ M P E := .mk fun W tk σ G H hE hH Q hP hX pins s _ I => h.run W tk σ G H hE hH Q hP hX pins s tk_f I
theorem ET.t {P : Bool → Mem → Prop} (h : ET X false e τ M P E) : ET X T e τ M P E := .mk fun W tk σ G H hE hH Q hP hX pins s _ I => h.run W tk σ G H hE hH Q hP hX pins s tk_f I
theorem WS.t {ss : List Stmt} (h : WS X false ss τ M R) : WS X T ss τ M R := .mk fun W tk σ G H hE hH D hR pins s _ I => h.run W tk σ G H hE hH D hR pins s tk_f I

/-! ### operators by values -/
theorem o_scal {f : Value → Value → Sem Value} {r : R2} {x y : Dat} (v u : V) (hv : ∀ G w, Den X.K G x w → w = v) (hu : ∀ G w, Den X.K G y w → w = u) (ho : OpR X f r) (h : ∀ G H, Hst X.K G M H → ∀ Q, CE' X.K G M H P Q → r v u H Q) : OP X T f x y M P :=
  op_of ho fun G H v' u' hH dx dy Q hP => by rw [hv _ _ dx, hu _ _ dy]; exact h G H hH Q hP
theorem o_eqS {x y : Dat} (v u : V) (hv : ∀ G w, Den X.K G x w → w = v) (hu : ∀ G w, Den X.K G y w → w = u) (hs : scal v u = true) (h : P (.bl (decide (v = u))) M) : OP X T (compareOp .Eq) x y M P := o_scal v u hv hu op_eq fun G H hH Q hP => ⟨hs, hP _ _ _ _ _ h Stp.refl hH den_bl⟩
theorem o_neS {x y : Dat} (v u : V) (hv : ∀ G w, Den X.K G x w → w = v) (hu : ∀ G w, Den X.K G y w → w = u) (hs : scal v u = true) (h : P (.bl (!decide (v = u))) M) : OP X T (compareOp .NotEq) x y M P := o_scal v u hv hu op_ne fun G H hH Q hP => ⟨hs, hP _ _ _ _ _ h Stp.refl hH den_bl⟩
theorem vint {a b : Int} : decide (V.int a = V.int b) = decide (a = b) := by by_cases h : a = b <;> simp [h]
theorem vstr {a b : Str} : decide (V.str a = V.str b) = decide (a = b) := by by_cases h : a = b <;> simp [h]
theorem o_neI {i j : Int} (h : P (.bl (!decide (i = j))) M) : OP X T (compareOp .NotEq) (.int i) (.int j) M P := o_neS (.int i) (.int j) (fun _ _ d => d.int_inv) (fun _ _ d => d.int_inv) rfl (by rw [vint]; exact h)
theorem o_eqT {i j : Str} (h : P (.bl (decide (i = j))) M) : OP X T (compareOp .Eq) (.str i) (.str j) M P := o_eqS (.str i) (.str j) (fun _ _ d => d.str_inv) (fun _ _ d => d.str_inv) rfl (by rw [vstr]; exact h)
theorem o_neT {i j : Str} (h : P (.bl (!decide (i = j))) M) : OP X T (compareOp .NotEq) (.str i) (.str j) M P := o_neS (.str i) (.str j) (fun _ _ d => d.str_inv) (fun _ _ d => d.str_inv) rfl (by rw [vstr]; exact h)
/-- is None -/
def Dat.isN : Dat → Bool
  | .non => true
  | _ => false
theorem den_isN {K : PySem.W.Frag} {G : Hp} {d : Dat} {v : V} (h : Den K G d v) (hr : ∀ u, d ≠ .raw u) : decide (v = .non) = d.isN := by
  cases d with
  | non => rw [h.non_inv]; rfl
  | bl b => rw [h.bl_inv]; rfl
  | int i => rw [h.int_inv]; rfl
  | str s => rw [h.str_inv]; rfl
  | raw u => exact absurd rfl (hr u)
  | dic0 => obtain ⟨p, rfl, _⟩ := h.dic0_inv; rfl
  | scr ns => obtain ⟨p, rfl, _⟩ := h.scr_inv; rfl
  | lst ds => obtain ⟨p, vs, rfl, _⟩ := h.lst_inv; rfl
  | tup ds => obtain ⟨p, vs, rfl, _⟩ := h.tup_inv; rfl
  | obj C ns ds => obtain ⟨p, dx, vs, rfl, _⟩ := h.obj_inv; rfl
  | xn a dd ns ds => obtain ⟨vs, rfl, _⟩ := h.xn_inv; rfl
  | «at» a d => obtain ⟨rfl, _⟩ := h.at_inv; rfl
theorem o_isN {x : Dat} (hr : ∀ u, x ≠ .raw u) (h : P (.bl x.isN) M) : OP X T (compareOp .Is) x .non M P := op_of op_isN fun G H v u hH dx dy Q hP => ⟨dy.non_inv, by rw [den_isN dx hr]; exact hP _ _ _ _ _ h Stp.refl hH den_bl⟩
theorem o_notN {x : Dat} (hr : ∀ u, x ≠ .raw u) (h : P (.bl (!x.isN)) M) : OP X T (compareOp .IsNot) x .non M P := op_of op_notN fun G H v u hH dx dy Q hP => ⟨dy.non_inv, by rw [den_isN dx hr]; exact hP _ _ _ _ _ h Stp.refl hH den_bl⟩
/-- ints -/
theorem o_mul {i j : Int} (hc : CMulW i j) (h : P (.int (i * j)) M) : OP X T (binaryOp .Mult) (.int i) (.int j) M P := op_IIc op_mulW hc (fun _ => den_int) h
theorem o_mulS {i j : Int} (hc : (-(2 ^ 64) < i ∧ i < 2 ^ 64) ∨ (-(2 ^ 64) < j ∧ j < 2 ^ 64)) (h : P (.int (i * j)) M) : OP X T (binaryOp .Mult) (.int i) (.int j) M P := op_IIc op_mul hc (fun _ => den_int) h
theorem o_mod {i j : Int} (hc : 0 < j) (h : P (.int (i % j)) M) : OP X T (binaryOp .Mod) (.int i) (.int j) M P := op_IIc op_mod hc (fun _ => den_int) h
theorem o_div {i j : Int} (hc : CDivW i j) (h : P (.int (i / j)) M) : OP X T (binaryOp .FloorDiv) (.int i) (.int j) M P := op_IIc op_fdivW hc (fun _ => den_int) h
theorem ex_neg (h : EX X T a τ M (fun d M1 => ∃ i, d = .int i ∧ P (.int (-i)) M1) E) : EX X T (.UnaryOp .USub a pos) τ M P E := .mk fun W tk σ G H hE hH Q hP hX pins s k I =>
  UnaryOp_ (thn (h.run W tk σ G H hE hH (fun x H1 => ∃ i, x = .int i ∧ Q (.int (-i)) H1) (fun d M1 v G1 H1 ⟨i, ed, hp⟩ s1 h1 dv => by subst ed; exact ⟨i, dv.int_inv, hP _ _ _ _ _ hp s1 h1 den_int⟩) hX pins s k I) fun v s1 ⟨x, H1, I1, r1, q⟩ => un_neg pins s1 σ H1 x v Q I1 r1 q)
where UnaryOp_ := @PyProof.Rows.UnaryOp_
/-- texts -/
theorem o_cat {i j : Str} (hl : i.length + j.length ≤ sizeLine) (h : P (.str (i ++ j)) M) : OP X T (binaryOp .Add) (.str i) (.str j) M P := op_of op_add_str fun G H v u hH dx dy Q hP => ⟨i, j, dx.str_inv, dy.str_inv, hl, hP _ _ _ _ _ h Stp.refl hH den_str⟩
theorem o_notInS {c : Nat} {z : Str} (h : P (.bl (!decide (c ∈ z.cps.toList))) M) : OP X T (compareOp .NotIn) (.str ⟨#[c]⟩) (.str z) M P := op_of op_notIn_sign fun G H v u hH dx dy Q hP => ⟨c, z, dx.str_inv, dy.str_inv, hP _ _ _ _ _ h Stp.refl hH den_bl⟩
theorem o_ltT {i j : Str} (h : P (.bl (decide (i.cps.toList < j.cps.toList))) M) : OP X T (compareOp .Lt) (.str i) (.str j) M P := op_of op_lt_str fun G H v u hH dx dy Q hP => ⟨i, j, dx.str_inv, dy.str_inv, hP _ _ _ _ _ h Stp.refl hH den_bl⟩
/-- lists -/
theorem o_catL {xs ys : List Dat} (hl : xs.length + ys.length ≤ sizeLine) (h : P (.lst (xs ++ ys)) M) : OP X T (binaryOp .Add) (.lst xs) (.lst ys) M P := op_of op_cat fun G H v u hH dx dy Q hP => by
  obtain ⟨p, vs, rfl, g1, d1⟩ := dx.lst_inv
  obtain ⟨q, us, rfl, g2, d2⟩ := dy.lst_inv
  refine ⟨p, q, vs, us, rfl, rfl, hH.sub _ _ g1, hH.sub _ _ g2, by rw [d1.length, d2.length]; exact hl, fun r hr => ?_⟩
  obtain ⟨s2, h2⟩ := Stp.new (o := .lst (vs ++ us)) hH hr
  exact hP _ _ _ _ _ h s2 h2 (den_lst upd_same ((d1.append d2).up s2.gg))
/-! ### subscripts -/
def IQ (K : PySem.W.Frag) (x y : Dat) (M : Mem) (P : PK') : Prop := ∀ G H v u, Hst K G M H → Den K G x v → Den K G y u → ∀ Q, CE' K G M H P Q → rIx K v u H Q
theorem ex_ix (h : EX X T a τ M (fun x M1 => EX X T b τ M1 (fun y M2 => IQ X.K x y M2 P) E) E) (hs : PlainIx b := by exact fun _ _ => rfl) : EX X T (.Subscript a b pos) τ M P E := by
  refine .mk ?_; intro W tk σ G H hE hH Q hP hX pins s k I
  have hA := h.run W tk σ G H hE hH (fun x H1 => tW X T b σ H1 fun y H2 => rIx X.K x y H2 Q) (fun x M1 v G1 H1 hb s1 h1 dx => hb.run W tk σ G1 H1 (hE.up s1.gg) h1 _ (fun y M2 u G2 H2 ho s2 h2 dy => ho G2 H2 v u h2 (dx.up s2.gg) dy Q (hP.step (s1.trans s2))) (hX.step s1)) hX
  exact PyProof.Rows.Subscript_ (thnT k (hA pins s k I) fun v s1 k1 ⟨x, H1, I1, r1, q1⟩ => thn (q1 pins s1 k1 I1) fun u s2 ⟨y, H2, I2, r2, q2⟩ => ix_seq a b pins s2 σ H2 x y v u Q I2 r1 r2 q2 (hs _ _))
theorem atI_den {K : PySem.W.Frag} {G : Hp} {ds : List Dat} {vs : List V} {i : Int} {d : Dat} (h : DenL K G ds vs) (e : atI ds i = some d) : ∃ v, atI vs i = some v ∧ Den K G d v := by
  unfold atI at e ⊢
  rw [h.length]
  cases q : ixN ds.length i with
  | none => rw [q] at e; cases e
  | some j => rw [q] at e; exact h.get e
theorem i_lst {ds : List Dat} {i : Int} {d : Dat} (e : atI ds i = some d) (h : P d M) {K : PySem.W.Frag} : IQ K (.lst ds) (.int i) M P := fun G H v u hH dx dy Q hP => by
  obtain ⟨p, vs, rfl, g, dl⟩ := dx.lst_inv
  obtain ⟨w, e1, d1⟩ := atI_den dl e
  exact .inl ⟨p, vs, i, w, rfl, dy.int_inv, SqL.of (hH.sub _ _ g), e1, hP _ _ _ _ _ h Stp.refl hH d1⟩
theorem i_tup {ds : List Dat} {i : Int} {d : Dat} (e : atI ds i = some d) (h : P d M) {K : PySem.W.Frag} : IQ K (.tup ds) (.int i) M P := fun G H v u hH dx dy Q hP => by
  obtain ⟨p, vs, rfl, g, dl⟩ := dx.tup_inv
  obtain ⟨w, e1, d1⟩ := atI_den dl e
  exact .inr (.inl ⟨p, vs, i, w, rfl, dy.int_inv, SqT.of (hH.sub _ _ g), e1, hP _ _ _ _ _ h Stp.refl hH d1⟩)
theorem i_cell {p : Addr} {ds : List Dat} {i : Int} {d : Dat} (hm : (p, MC.lst ds) ∈ M) (e : atI ds i = some d) (h : P d M) {K : PySem.W.Frag} : IQ K (.raw (.ref p)) (.int i) M P := fun G H v u hH dx dy Q hP => by
  obtain ⟨vs, g, dl⟩ := hH.mem _ hm
  obtain ⟨w, e1, d1⟩ := atI_den dl e
  exact .inl ⟨p, vs, i, w, dx.raw_inv, dy.int_inv, SqL.of g, e1, hP _ _ _ _ _ h Stp.refl hH d1⟩
theorem i_scr {ns : List Int} {i n : Int} (e : atI ns i = some n) (h : P (.int n) M) {K : PySem.W.Frag} : IQ K (.scr ns) (.int i) M P := fun G H v u hH dx dy Q hP => by
  obtain ⟨p, rfl, g⟩ := dx.scr_inv
  refine .inl ⟨p, _, i, .int n, rfl, dy.int_inv, hH.sub.seq g, ?_, hP _ _ _ _ _ h Stp.refl hH den_int⟩
  unfold atI at e ⊢
  rw [List.length_map]
  cases q : ixN ns.length i with
  | none => rw [q] at e; cases e
  | some j =>
    rw [q] at e
    show (ns.map V.int)[j]? = _
    rw [List.getElem?_map, show ns[j]? = some n from e]; rfl
theorem i_str {z : Str} {i : Int} {c : Nat} (hl : z.length ≤ sizeLine) (e : atI z.cps.toList i = some c) (h : P (.str ⟨#[c]⟩) M) {K : PySem.W.Frag} : IQ K (.str z) (.int i) M P := fun G H v u hH dx dy Q hP =>
  .inr (.inr ⟨z, i, c, dx.str_inv, dy.int_inv, hl, e, hP _ _ _ _ _ h Stp.refl hH den_str⟩)
end
end Kh

set_option Elab.async false
set_option linter.all false
set_option maxRecDepth 100000
set_option maxHeartbeats 1000000
namespace Kh
open PySem PySem.Spec L2

section
variable {X : Cx} {T : Bool} {τ : TEnv} {M : Mem} {P : PK'} {E : XKx} {e a b c o : Expr} {es : List Expr} {pos apos p2 : Pos} {R : RK} {rest : List Stmt}
/-! ### slices -/
def tWO (X : Cx) (T : Bool) (e : Option Expr) : TO := fun σ H Q => ∀ pins s, Tk T s → Inv X pins σ H s → wpAny (model X.prog X.w) X.A (evalPart e X.env) (fun u s' => ∃ o H', Inv X pins σ H' s' ∧ IsPart u o ∧ Q o H') X.xe s
structure EP' (X : Cx) (T : Bool) (e : Option Expr) (τ : TEnv) (M : Mem) (P : Option Int → Mem → Prop) (E : XKx) : Prop where
  run : ∀ W, Takes X W → ∀ σ G H, DenE X.K τ G σ → Hst X.K G M H → ∀ Q : Option Int → Hp → Prop, (∀ i M2 G2 H2, P i M2 → Stp G M H G2 M2 H2 → Hst X.K G2 M2 H2 → Q i H2) → CX' X.K G M H E (fun c d H2 => W c d σ H2) → tWO X T e σ H Q
theorem ep_none {P : Option Int → Mem → Prop} (h : P none M) : EP' X T none τ M P E := .mk fun W tk σ G H hE hH Q hP hX pins s k I => po_none.run pins s σ H Q I (hP _ _ _ _ h Stp.refl hH)
theorem ep_some {P : Option Int → Mem → Prop} (h : EX X T e τ M (fun d M1 => ∃ i, d = .int i ∧ P (some i) M1) E) : EP' X T (some e) τ M P E := .mk fun W tk σ G H hE hH Q hP hX pins s k I => by
  rw [evalPart_some]
  refine thn (h.run W tk σ G H hE hH (fun x H1 => ∃ i, x = .int i ∧ Q (some i) H1) (fun d M1 v G1 H1 ⟨i, ed, hp⟩ s1 h1 dv => by subst ed; exact ⟨i, dv.int_inv, hP _ _ _ _ hp s1 h1⟩) hX pins s k I) fun u s1 ⟨x, H1, I1, r1, i, ex, q⟩ => ?_
  subst ex
  obtain ⟨t, rfl⟩ := r1
  exact ⟨some i, H1, I1, .int i t, q⟩
/-- a slice, by values -/
def SQ (X : Cx) (x : Dat) (lo hi : Option Int) (M : Mem) (P : PK') : Prop := ∃ r, SlR X r ∧ ∀ G H v, Hst X.K G M H → Den X.K G x v → ∀ Q, CE' X.K G M H P Q → r v lo hi H Q
theorem ex_sl {lo hi : Option Expr} (h : EX X T e τ M (fun x M1 => EP' X T lo τ M1 (fun l M2 => EP' X T hi τ M2 (fun u M3 => SQ X x l u M3 P) E) E) E) : EX X T (.Subscript e (.Slice lo hi none p2) pos) τ M P E := by
  refine .mk ?_; intro W tk σ G H hE hH Q hP hX pins s k I
  have hA := h.run W tk σ G H hE hH (fun x H1 => tWO X T lo σ H1 fun l H2 => tWO X T hi σ H2 fun u H3 => ∃ r, SlR X r ∧ r x l u H3 Q) (fun x M1 v G1 H1 hb s1 h1 dx =>
    hb.run W tk σ G1 H1 (hE.up s1.gg) h1 _ (fun l M2 G2 H2 hb2 s2 h2 => hb2.run W tk σ G2 H2 ((hE.up s1.gg).up s2.gg) h2 _ (fun u M3 G3 H3 ⟨r, hr, hq⟩ s3 h3 =>
      ⟨r, hr, hq G3 H3 v h3 ((dx.up s2.gg).up s3.gg) Q (hP.step ((s1.trans s2).trans s3))⟩) (hX.step (s1.trans s2))) (hX.step s1)) hX
  refine PyProof.Rows.Subscript_ (thnT k (hA pins s k I) fun v s1 k1 ⟨x, H1, I1, r1, q1⟩ => ?_)
  refine wpAny_Slice (thnT k1 (q1 pins s1 k1 I1) fun vl s2 k2 ⟨l, H2, I2, pl, q2⟩ => thn (q2 pins s2 k2 I2) fun vu s3 ⟨u, H3, I3, pu, r, hr, q3⟩ => ?_)
  rw [evalPart_none]
  refine wpAny_pure ?_
  have I4 : Inv X pins σ H3 { s3 with heap := s3.heap.push { cls := .type "slice", data := .fields #[vl, vu, .none] } } := I3.kept (t' := s3.toks) fun b ob q => Heap.get?_push_of_some _ q
  obtain ⟨T', id, hT, ht, hg⟩ := hr pins { s3 with heap := s3.heap.push { cls := .type "slice", data := .fields #[vl, vu, .none] } } σ H3 x v vl vu l u s3.heap.objs.size Q I4 r1 (Heap.IsSliceOf.new ..) pl pu q3
  show wpAny (model X.prog X.w) X.A (PyProof.Rows.subscriptTail e (.Slice lo hi none p2) v (.ref s3.heap.objs.size)) (EP X pins σ Q) X.xe { s3 with heap := s3.heap.push { cls := .type "slice", data := .fields #[vl, vu, .none] } }
  exact PyProof.Rows.tail_any (ops := [.ref s3.heap.objs.size, v]) ht hT hg (by with_unfolding_all rfl)
/-- the items between two places -/
def cutD {α : Type} (xs : List α) (lo hi : Option Int) : List α := (xs.drop (HT.sIx xs.length 0 lo)).take (HT.sIx xs.length xs.length hi - HT.sIx xs.length 0 lo)
theorem l_str {z : Str} {lo hi : Option Int} (hl : z.length ≤ sizeLine) (h : P (.str (cutS z lo hi)) M) : SQ X (.str z) lo hi M P := ⟨_, sl_str, fun G H v hH dx Q hP => ⟨z, dx.str_inv, hl, hP _ _ _ _ _ h Stp.refl hH den_str⟩⟩
/-! ### built-ins by values -/
theorem bc_of {f : Value} {r : List V → Hp → VK → Prop} {ds : List Dat} (hr : CallR X f r) (h : ∀ G H vs, Hst X.K G M H → DenL X.K G ds vs → ∀ Q, CE' X.K G M H P Q → r vs H Q) : BC X f ds M P := ⟨r, hr, h⟩
theorem one_inv {K : PySem.W.Frag} {G : Hp} {d : Dat} {vs : List V} (h : DenL K G [d] vs) : ∃ v, vs = [v] ∧ Den K G d v := by
  obtain ⟨v, r, rfl, d1, t⟩ := h.cons_inv
  rw [t.nil_inv]; exact ⟨v, rfl, d1⟩
theorem two_inv {K : PySem.W.Frag} {G : Hp} {d e : Dat} {vs : List V} (h : DenL K G [d, e] vs) : ∃ v u, vs = [v, u] ∧ Den K G d v ∧ Den K G e u := by
  obtain ⟨v, r, rfl, d1, t⟩ := h.cons_inv
  obtain ⟨u, rfl, d2⟩ := one_inv t
  exact ⟨v, u, rfl, d1, d2⟩
theorem c_len_lst {ds : List Dat} (h : P (.int ds.length) M) : BC X (.builtin "len") [.lst ds] M P := bc_of call_len_seq fun G H vs hH dv Q hP => by
  obtain ⟨v, rfl, d⟩ := one_inv dv
  obtain ⟨p, us, rfl, g, dl⟩ := d.lst_inv
  exact ⟨p, us, rfl, .inl (SqL.of (hH.sub _ _ g)), by rw [dl.length]; exact hP _ _ _ _ _ h Stp.refl hH den_int⟩
theorem c_len_tup {ds : List Dat} (h : P (.int ds.length) M) : BC X (.builtin "len") [.tup ds] M P := bc_of call_len_seq fun G H vs hH dv Q hP => by
  obtain ⟨v, rfl, d⟩ := one_inv dv
  obtain ⟨p, us, rfl, g, dl⟩ := d.tup_inv
  exact ⟨p, us, rfl, .inr (SqT.of (hH.sub _ _ g)), by rw [dl.length]; exact hP _ _ _ _ _ h Stp.refl hH den_int⟩
theorem c_len_scr {ns : List Int} (h : P (.int ns.length) M) : BC X (.builtin "len") [.scr ns] M P := bc_of call_len_seq fun G H vs hH dv Q hP => by
  obtain ⟨v, rfl, d⟩ := one_inv dv
  obtain ⟨p, rfl, g⟩ := d.scr_inv
  exact ⟨p, _, rfl, .inl (hH.sub.seq g), by rw [List.length_map]; exact hP _ _ _ _ _ h Stp.refl hH den_int⟩
theorem c_len_str {z : Str} (hl : z.length ≤ sizeLine) (h : P (.int z.length) M) : BC X (.builtin "len") [.str z] M P := bc_of call_len_str fun G H vs hH dv Q hP => by
  obtain ⟨v, rfl, d⟩ := one_inv dv
  exact ⟨z, by rw [d.str_inv], hl, hP _ _ _ _ _ h Stp.refl hH den_int⟩
theorem c_int_i {i : Int} (h : P (.int i) M) : BC X (.type "int") [.int i] M P := bc_of call_int1 fun G H vs hH dv Q hP => by
  obtain ⟨v, rfl, d⟩ := one_inv dv
  exact .inl ⟨i, by rw [d.int_inv], hP _ _ _ _ _ h Stp.refl hH den_int⟩
theorem c_int_b {k : Bool} (h : P (.int (if k then 1 else 0)) M) : BC X (.type "int") [.bl k] M P := bc_of call_int1 fun G H vs hH dv Q hP => by
  obtain ⟨v, rfl, d⟩ := one_inv dv
  exact .inr ⟨k, by rw [d.bl_inv], hP _ _ _ _ _ h Stp.refl hH den_int⟩
theorem c_min {i j : Int} (hc : X.calm = true) (h : P (.int (if j < i then j else i)) M) : BC X (.builtin "min") [.int i, .int j] M P := bc_of (call_min2 hc) fun G H vs hH dv Q hP => by
  obtain ⟨v, u, rfl, d1, d2⟩ := two_inv dv
  exact ⟨i, j, by rw [d1.int_inv, d2.int_inv], hP _ _ _ _ _ h Stp.refl hH den_int⟩
theorem c_max {i j : Int} (hc : X.calm = true) (h : P (.int (if j > i then j else i)) M) : BC X (.builtin "max") [.int i, .int j] M P := bc_of (call_max2 hc) fun G H vs hH dv Q hP => by
  obtain ⟨v, u, rfl, d1, d2⟩ := two_inv dv
  exact ⟨i, j, by rw [d1.int_inv, d2.int_inv], hP _ _ _ _ _ h Stp.refl hH den_int⟩
theorem c_sum {ns : List Int} {ds : List Dat} (hc : X.calm = true) (e : ds = ns.map Dat.int) (h : P (.int ns.sum) M) : BC X (.builtin "sum") [.lst ds] M P := bc_of (cr_sum hc) fun G H vs hH dv Q hP => by
  subst e
  obtain ⟨v, rfl, d⟩ := one_inv dv
  obtain ⟨p, us, rfl, g, dl⟩ := d.lst_inv
  rw [dl.ints] at g
  exact ⟨p, ns, rfl, SqL.of (hH.sub _ _ g), hP _ _ _ _ _ h Stp.refl hH den_int⟩
theorem c_list_lst {ds : List Dat} (h : P (.lst ds) M) : BC X (.type "list") [.lst ds] M P := bc_of call_list_of fun G H vs hH dv Q hP => by
  obtain ⟨v, rfl, d⟩ := one_inv dv
  obtain ⟨p, us, rfl, g, dl⟩ := d.lst_inv
  refine ⟨p, us, rfl, .inl (SqL.of (hH.sub _ _ g)), fun r hr => ?_⟩
  obtain ⟨s2, h2⟩ := Stp.new (o := .lst us) hH hr
  exact hP _ _ _ _ _ h s2 h2 (den_lst upd_same (dl.up s2.gg))
/-! isinstance -/
structure ICls (K : PySem.W.Frag) (C : Addr) : Prop where
  cl : Cls K C
  ha : PySem.W.findIn K (.ref C) "__class__" = some (some (.builtin "object.__class__"))
  hn : PySem.W.specialIn K (.builtin "object.__class__") "__get__" = some (some (.builtin "getset_descriptor.__get__"))
  tk : PySem.W.takesIn K (.builtin "object.__class__") = some true
  mr : PySem.W.mroIn K C (.type "object") = some true
/-- the type of a datum -/
inductive TyD (K : PySem.W.Frag) (M : Mem) : Dat → Value → Prop
  | non : TyD K M .non (.type "NoneType")
  | bl {k : Bool} : TyD K M (.bl k) (.type "bool")
  | int {i : Int} : TyD K M (.int i) (.type "int")
  | str {s : Str} : TyD K M (.str s) (.type "str")
  | lst {ds : List Dat} : TyD K M (.lst ds) (.type "list")
  | tup {ds : List Dat} : TyD K M (.tup ds) (.type "tuple")
  | dic0 : TyD K M .dic0 (.type "dict")
  | «at» {a : Addr} {d : Dat} {t : Value} (h : TyD K M d t) : TyD K M (.at a d) t
  | obj {C : Addr} {ns : List Str} {ds : List Dat} (h : ICls K C) : TyD K M (.obj C ns ds) (.ref C)
  | cellL {p : Addr} {ds : List Dat} (h : (p, MC.lst ds) ∈ M) : TyD K M (.raw (.ref p)) (.type "list")
  | cellI {p C dx : Addr} {fs : List (Str × Dat)} (h : (p, MC.ins C dx fs) ∈ M) (hc : ICls K C) : TyD K M (.raw (.ref p)) (.ref C)
theorem tyD_ok {K : PySem.W.Frag} {G H : Hp} {d : Dat} {t : Value} {v : V} (h : TyD K M d t) (hH : Hst K G M H) (dv : Den K G d v) : TyX K H v t := by
  induction h generalizing v with
  | «at» h ih => exact ih dv.at_inv.2
  | non => rw [dv.non_inv]; exact .base .non
  | bl => rw [dv.bl_inv]; exact .base (.bl _)
  | int => rw [dv.int_inv]; exact .base (.int _)
  | str => rw [dv.str_inv]; exact .base (.str _)
  | lst => obtain ⟨p, vs, rfl, g, _⟩ := dv.lst_inv; exact .base (.lst (hH.sub _ _ g))
  | tup => obtain ⟨p, vs, rfl, g, _⟩ := dv.tup_inv; exact .base (.tup (hH.sub _ _ g))
  | dic0 => obtain ⟨p, rfl, g⟩ := dv.dic0_inv; exact .base (.dK (hH.sub _ _ g))
  | obj h => obtain ⟨p, dx, vs, rfl, g, _⟩ := dv.obj_inv; exact .base (.ins (hH.sub _ _ g) h.cl h.ha h.hn h.tk h.mr)
  | cellL h => obtain ⟨vs, g, _⟩ := hH.mem _ h; rw [dv.raw_inv]; exact .base (.lst g)
  | cellI h hc => obtain ⟨vs, g, _⟩ := hH.mem _ h; rw [dv.raw_inv]; exact .base (.ins g hc.cl hc.ha hc.hn hc.tk hc.mr)
theorem c_isi {d : Dat} {cv : V} {t u : Value} {k : Bool} (hc : ClsV cv u) (ht : TyD X.K M d t) (hk : PySem.W.kitOne X.K t u = some k) (h : P (.bl k) M) : BC X (.builtin "isinstance") [d, .raw cv] M P := bc_of call_isi fun G H vs hH dv Q hP => by
  obtain ⟨v, w, rfl, d1, d2⟩ := two_inv dv
  rw [d2.raw_inv]
  exact ⟨v, cv, t, u, k, rfl, hc, tyD_ok ht hH d1, hk, hP _ _ _ _ _ h Stp.refl hH den_bl⟩

/-! ### data compared -/
mutual
def toPy : Dat → Option PyData
  | .non => some .none
  | .bl b => some (.bool b)
  | .int i => some (.int i)
  | .str s => some (.str s)
  | .lst xs => (toPyL xs).map PyData.list
  | .tup xs => (toPyL xs).map PyData.tuple
  | _ => none
def toPyL : List Dat → Option (List PyData)
  | [] => some []
  | d :: ds => (toPy d).bind fun x => (toPyL ds).map fun xs => x :: xs
end
mutual
theorem toPy_dp {K : PySem.W.Frag} {G H : Hp} (hs : Same G H) : ∀ (d : Dat) (v : V) (x : PyData), Den K G d v → toPy d = some x → Dp K H v x
  | .non, v, x, h, e => by rw [h.non_inv]; simp only [toPy, Option.some.injEq] at e; subst e; exact .non
  | .bl b, v, x, h, e => by rw [h.bl_inv]; simp only [toPy, Option.some.injEq] at e; subst e; exact .bl b
  | .int i, v, x, h, e => by rw [h.int_inv]; simp only [toPy, Option.some.injEq] at e; subst e; exact .int i
  | .str s, v, x, h, e => by rw [h.str_inv]; simp only [toPy, Option.some.injEq] at e; subst e; exact .str s
  | .lst ds, v, x, h, e => by
    obtain ⟨p, vs, rfl, g, dl⟩ := h.lst_inv
    simp only [toPy, Option.map_eq_some_iff] at e
    obtain ⟨xs, e1, rfl⟩ := e
    exact .lst (SqL.of (hs _ _ g)) (toPyL_dp hs ds vs xs dl e1)
  | .tup ds, v, x, h, e => by
    obtain ⟨p, vs, rfl, g, dl⟩ := h.tup_inv
    simp only [toPy, Option.map_eq_some_iff] at e
    obtain ⟨xs, e1, rfl⟩ := e
    exact .tup (SqT.of (hs _ _ g)) (toPyL_dp hs ds vs xs dl e1)
  | .raw _, _, _, _, e => by simp [toPy] at e
  | .dic0, _, _, _, e => by simp [toPy] at e
  | .scr _, _, _, _, e => by simp [toPy] at e
  | .obj _ _ _, _, _, _, e => by simp [toPy] at e
theorem toPyL_dp {K : PySem.W.Frag} {G H : Hp} (hs : Same G H) : ∀ (ds : List Dat) (vs : List V) (xs : List PyData), DenL K G ds vs → toPyL ds = some xs → DpAll K H vs xs
  | [], vs, xs, h, e => by rw [h.nil_inv]; simp only [toPyL, Option.some.injEq] at e; subst e; exact .nil
  | d :: ds, vs, xs, h, e => by
    obtain ⟨v, r, rfl, d1, t⟩ := h.cons_inv
    simp only [toPyL, Option.bind_eq_some_iff, Option.map_eq_some_iff] at e
    obtain ⟨x, e1, ys, e2, rfl⟩ := e
    exact .cons (toPy_dp hs d v x d1 e1) (toPyL_dp hs ds r ys t e2)
end
theorem o_eqD {x y : Dat} {d f : PyData} (hx : toPy x = some d) (hy : toPy y = some f) (sd : SeqAt.shaped d = true) (sf : SeqAt.shaped f = true) (hu : X.A.units + 64 < cLine) (h : P (.bl (PyData.eqv d f)) M) : OP X T (compareOp .Eq) x y M P :=
  op_of (op_eqD hu) fun G H v u hH dx dy Q hP => ⟨d, f, toPy_dp hH.sub x v d dx hx, toPy_dp hH.sub y u f dy hy, sd, sf, hP _ _ _ _ _ h Stp.refl hH den_bl⟩
theorem o_neD {x y : Dat} {d f : PyData} (hx : toPy x = some d) (hy : toPy y = some f) (sd : SeqAt.shaped d = true) (sf : SeqAt.shaped f = true) (hu : X.A.units + 64 < cLine) (h : P (.bl (!PyData.eqv d f)) M) : OP X T (compareOp .NotEq) x y M P :=
  op_of (op_neD hu) fun G H v u hH dx dy Q hP => ⟨d, f, toPy_dp hH.sub x v d dx hx, toPy_dp hH.sub y u f dy hy, sd, sf, hP _ _ _ _ _ h Stp.refl hH den_bl⟩
end
end Kh

set_option Elab.async false
set_option linter.all false
set_option maxRecDepth 100000
set_option maxHeartbeats 1000000
namespace Kh
open PySem PySem.Spec L2
section
variable {X : Cx} {T : Bool} {τ : TEnv} {M : Mem} {P : PK'} {E : XKx} {e a b c o value : Expr} {es : List Expr} {pos pos' apos tpos : Pos} {R : RK} {rest : List Stmt} {x : Str}
/-! ### cells written -/
theorem adr_split {A B : Mem} {c c' : Addr × MC} (h : adr1 c = adr1 c') : adr (A ++ c :: B) = adr (A ++ c' :: B) := by
  rw [adr_append, adr_append]
  show adr A ++ (adr1 c ++ adr B) = adr A ++ (adr1 c' ++ adr B)
  rw [h]
/-- the cell at p gets another content of the same addresses: H2 differs from H at p alone -/
theorem cell_put {K : PySem.W.Frag} {G H H2 : Hp} {A B : Mem} {p : Addr} {c c' : MC} (h : Hst K G (A ++ (p, c) :: B) H) (hc : adr1 (p, c) = adr1 (p, c')) (hp : p ∈ adr1 (p, c)) (hk : ∀ q, q ≠ p → H2 q = H q) (hn : MH K G H2 (p, c')) :
    Stp G (A ++ (p, c) :: B) H G (A ++ (p, c') :: B) H2 ∧ Hst K G (A ++ (p, c') :: B) H2 := by
  have ea : adr (A ++ (p, c) :: B) = adr (A ++ (p, c') :: B) := adr_split hc
  have hpm : p ∈ adr (A ++ (p, c) :: B) := by rw [adr_append]; exact List.mem_append_right _ (List.mem_append_left _ hp)
  have nd := h.nd
  rw [adr_append] at nd
  obtain ⟨_, nb, nab⟩ := List.nodup_append.mp nd
  have nb' : (adr1 (p, c) ++ adr B).Nodup := nb
  obtain ⟨_, _, ncb⟩ := List.nodup_append.mp nb'
  have other : ∀ d ∈ A ++ B, ∀ q ∈ adr1 d, q ≠ p := fun d hd q hq e => by
    rcases List.mem_append.mp hd with z | z
    · exact nab q (List.mem_flatMap.mpr ⟨d, z, hq⟩) p (List.mem_append_left _ hp) e
    · exact ncb p hp q (List.mem_flatMap.mpr ⟨d, z, hq⟩) e.symm
  refine ⟨⟨Same.refl _, fun q o n e => by rw [hk q (fun z => n (by rw [z]; exact hpm))]; exact e, fun _ _ _ g => g, fun q hq => .inl (by rw [ea]; exact hq)⟩, fun q o e => ?_, fun d hd => ?_, fun q hq => h.out q (by rw [ea]; exact hq), by rw [← ea]; exact h.nd⟩
  · have : q ≠ p := fun z => by rw [z, h.out p hpm] at e; cases e
    rw [hk q this]; exact h.sub q o e
  · rcases List.mem_append.mp hd with z | z
    · exact (h.mem d (List.mem_append_left _ z)).up (Same.refl _) fun q hq o e => by rw [hk q (other d (List.mem_append_left _ z) q hq)]; exact e
    · rcases List.mem_cons.mp z with rfl | z
      · exact hn
      · exact (h.mem d (List.mem_append_right _ (List.mem_cons_of_mem _ z))).up (Same.refl _) fun q hq o e => by rw [hk q (other d (List.mem_append_right _ z) q hq)]; exact e
/-- M with the cell of p put anew -/
def putC (p : Addr) (c' : MC) : Mem → Mem
  | [] => []
  | (q, c) :: M => if q = p then (p, c') :: M else (q, c) :: putC p c' M
theorem putC_split {p : Addr} {c c' : MC} : ∀ {M : Mem}, (p, c) ∈ M → ∃ A B, M = A ++ (p, (M.lookup p).getD c) :: B ∧ putC p c' M = A ++ (p, c') :: B
  | (q, d) :: M, h => by
    by_cases e : q = p
    · subst e
      exact ⟨[], M, by simp [List.lookup], by simp [putC]⟩
    · have hm : (p, c) ∈ M := by
        rcases List.mem_cons.mp h with z | z
        · cases z; exact absurd rfl e
        · exact z
      obtain ⟨A, B, h1, h2⟩ := putC_split (c' := c') hm
      have el : (List.lookup p ((q, d) :: M)) = List.lookup p M := by
        rw [List.lookup_cons, show (p == q) = false from by simpa using fun z => e z.symm]
      refine ⟨(q, d) :: A, B, ?_, ?_⟩
      · rw [el, List.cons_append, ← h1]
      · show (if q = p then _ else (q, d) :: putC p c' M) = _
        rw [if_neg e, h2]; rfl
theorem nodup_cell {K : PySem.W.Frag} {G H : Hp} {p : Addr} {c : MC} (h : Hst K G M H) (hm : (p, c) ∈ M) : M.lookup p = some c := by
  have nd := h.nd
  clear h
  induction M with
  | nil => cases hm
  | cons q M ih =>
    obtain ⟨q, d⟩ := q
    have hq : q ∈ adr1 (q, d) := by cases d <;> simp [adr1]
    have nd' : (adr1 (q, d) ++ adr M).Nodup := nd
    obtain ⟨_, n2, n3⟩ := List.nodup_append.mp nd'
    rw [List.lookup_cons]
    rcases List.mem_cons.mp hm with z | z
    · cases z; simp
    · have hp : p ∈ adr M := List.mem_flatMap.mpr ⟨_, z, by cases c <;> simp [adr1]⟩
      have : (p == q) = false := by
        cases e : p == q with
        | false => rfl
        | true =>
          have e' : p = q := by simpa using e
          exact absurd e'.symm (fun z => n3 q hq p hp z)
      rw [this]
      exact ih z n2
theorem put_ok {K : PySem.W.Frag} {G H H2 : Hp} {p : Addr} {c c' : MC} (h : Hst K G M H) (hm : (p, c) ∈ M) (hc : adr1 (p, c) = adr1 (p, c')) (hk : ∀ q, q ≠ p → H2 q = H q) (hn : MH K G H2 (p, c')) :
    Stp G M H G (putC p c' M) H2 ∧ Hst K G (putC p c' M) H2 := by
  obtain ⟨A, B, h1, h2⟩ := putC_split (c' := c') hm
  rw [nodup_cell h hm] at h1
  have h1 : M = A ++ (p, c) :: B := h1
  rw [h2]
  rw [h1] at h ⊢
  exact cell_put h hc (by cases c <;> simp [adr1]) hk hn

/-! ### methods of built-in types -/
inductive TyB (K : PySem.W.Frag) (M : Mem) : Dat → String → Prop
  | str {s : Str} : TyB K M (.str s) "str"
  | int {i : Int} : TyB K M (.int i) "int"
  | lst {ds : List Dat} : TyB K M (.lst ds) "list"
  | scr {ns : List Int} : TyB K M (.scr ns) "list"
  | cell {p : Addr} {ds : List Dat} (h : (p, MC.lst ds) ∈ M) : TyB K M (.raw (.ref p)) "list"
  | dcell {p : Addr} {kvs : List (Key × Dat)} (h : (p, MC.dic kvs) ∈ M) : TyB K M (.raw (.ref p)) "dict"
theorem tyB_ok {K : PySem.W.Frag} {G H : Hp} {d : Dat} {t : String} {v : V} (h : TyB K M d t) (hH : Hst K G M H) (dv : Den K G d v) : tyV K t v H := by
  cases h with
  | str => rw [dv.str_inv]; rfl
  | int => rw [dv.int_inv]; rfl
  | lst => obtain ⟨p, vs, rfl, g, _⟩ := dv.lst_inv; exact .inl ⟨rfl, vs, SqL.of (hH.sub _ _ g)⟩
  | scr => obtain ⟨p, rfl, g⟩ := dv.scr_inv; exact .inl ⟨rfl, _, hH.sub.seq g⟩
  | cell h => obtain ⟨vs, g, _⟩ := hH.mem _ h; rw [dv.raw_inv]; exact .inl ⟨rfl, vs, SqL.of g⟩
  | dcell h => obtain ⟨vs, g, _⟩ := hH.mem _ h; rw [dv.raw_inv]; exact .inr (.inr (.inl ⟨rfl, .inl ⟨vs, g⟩⟩))
/-- a built-in method of d, called with ds -/
def BMr (X : Cx) (id : String) (d : Dat) (ds : List Dat) (M : Mem) (P : PK') : Prop :=
  ∃ r, MtR X id r ∧ ∀ G H v vs, Hst X.K G M H → Den X.K G d v → DenL X.K G ds vs → ∀ Q, CE' X.K G M H P Q → r v vs H Q
theorem ex_bm {name : Str} {t id : String} (pa : PlainAttrs t) (slot : Slot t name id) (hty : typeOf (.builtin id) = pure (.type "method_descriptor"))
    (h : EX X T o τ M (fun d M1 => TyB X.K M1 d t ∧ EA X T (e :: es) τ M1 (fun ds M2 => BMr X id d ds M2 P) E) E)
    (hbase : attributeBase o name X.env (eval o X.env) = eval o X.env := by rfl)
    (hfew : ((backTo tpos (starEach (e :: es) X.env)).all (fun x => !x.1) && (backToKw tpos (keywordEach [] X.env)).all (fun x => x.1.isSome) && decide ((e :: es).length + ([] : List Keyword).length + (if ([] : List Keyword).isEmpty then 0 else 1) < 30)) = true := by rfl)
    (hline : (apos.endLine == tpos.line) = true := by rfl) (hs : starEach (e :: es) X.env = (false, eval e X.env) :: starEach es X.env := by rfl) (hplain : (backTo tpos (starEach es X.env)).any (·.1) = false := by rfl) :
    EX X T (.Call (.Attribute o name apos) (e :: es) [] tpos) τ M P E := by
  refine .mk ?_; intro W tk σ G H hE hH Q hP hX pins s k I
  have hA := h.run W tk σ G H hE hH (fun v H1 => tyV X.K t v H1 ∧ tWA X T (e :: es) σ H1 fun vs H2 => ∃ r, MtR X id r ∧ r v vs H2 Q) (fun d M1 v G1 H1 ⟨ht, hb⟩ s1 h1 dv =>
    ⟨tyB_ok ht h1 dv, hb.run W tk σ G1 H1 (hE.up s1.gg) h1 _ (fun ds M2 vs G2 H2 ⟨r, hr, hq⟩ s2 h2 dvs => ⟨r, hr, hq G2 H2 v vs h2 (dv.up s2.gg) dvs Q (hP.step (s1.trans s2))⟩) (hX.step s1)⟩) hX
  refine wpAny_Call_method_late hbase hfew hline rfl (thnT k (hA pins s k I) fun v s1 k1 ⟨x, H1, I1, r1, ty, q1⟩ => ?_)
  obtain ⟨h1, h2⟩ := tyV_is I1 r1 ty
  refine ⟨t, id, pa, slot, hty, h1, h2, ?_⟩
  have hA := q1 tpos pins s1 k1 I1
  rw [hs] at hA ⊢
  refine Calls.callWith_builtin (by show (false || (backTo tpos (starEach es X.env)).any (·.1)) = false; rw [hplain] <;> rfl) (Calls.evalArgs_plain ?_)
  exact thn hA fun us s2 ⟨vs, H2, I2, r2, r, hr, q2⟩ => hr pins s2 σ H2 x vs v us Q I2 r1 r2 q2
theorem ex_append (h : EX X T o τ M (fun d M1 => TyB X.K M1 d "list" ∧ EA X T (e :: es) τ M1 (fun ds M2 => BMr X "list.append" d ds M2 P) E) E)
    (hbase : attributeBase o "append" X.env (eval o X.env) = eval o X.env := by rfl)
    (hfew : ((backTo tpos (starEach (e :: es) X.env)).all (fun x => !x.1) && (backToKw tpos (keywordEach [] X.env)).all (fun x => x.1.isSome) && decide ((e :: es).length + ([] : List Keyword).length + (if ([] : List Keyword).isEmpty then 0 else 1) < 30)) = true := by rfl)
    (hline : (apos.endLine == tpos.line) = true := by rfl) (hs : starEach (e :: es) X.env = (false, eval e X.env) :: starEach es X.env := by rfl) (hplain : (backTo tpos (starEach es X.env)).any (·.1) = false := by rfl) :
    EX X T (.Call (.Attribute o "append" apos) (e :: es) [] tpos) τ M P E := ex_bm PySem.F.plainAttrs_list PySem.F.slot_list_append PySem.F.type_list_append h hbase hfew hline hs hplain
/-! ### o[i] = v -/
/-! ### a new list that may change -/
theorem ex_lstC (h : EA X T es τ M (fun ds M1 => ds.length ≤ sizeLine ∧ ∀ q, q ∉ adr M1 → P (.raw (.ref q)) ((q, .lst ds) :: M1)) E) : EX X T (.List es pos) τ M P E := by
  refine .mk ?_; intro W tk σ G H hE hH Q hP hX
  refine v_lst ?_
  refine h.run W tk σ G H hE hH _ ?_ hX
  intro ds M1 vs G1 H1 ⟨hl, hp⟩ s1 h1 dvs
  refine ⟨by rw [dvs.length]; exact hl, fun p hp' => ?_⟩
  have nM : p ∉ adr M1 := fun z => h1.there p z hp'
  have ha : adr ((p, MC.lst ds) :: M1) = p :: adr M1 := rfl
  have kp : ∀ b o, H1 b = some o → (upd H1 p (.lst vs)) b = some o := fun b o e => by rw [upd_ne (ne_of_none e hp')]; exact e
  refine hP _ _ _ _ _ (hp p nM) (s1.trans ⟨Same.refl _, fun b o _ e => kp b o e, fun _ _ _ g => g, fun b hb => ?_⟩) ⟨fun b o e => kp b o (h1.sub b o e), fun c hc => ?_, fun b hb => ?_, ?_⟩ den_raw
  · rw [ha] at hb
    rcases List.mem_cons.mp hb with rfl | hb
    · exact .inr hp'
    · exact .inl hb
  · rcases List.mem_cons.mp hc with rfl | hc
    · exact ⟨vs, upd_same, dvs⟩
    · exact (h1.mem c hc).up (Same.refl _) fun b hb o e => kp b o e
  · rw [ha] at hb
    rcases List.mem_cons.mp hb with rfl | hb
    · exact h1.sub.free hp'
    · exact h1.out b hb
  · rw [ha]
    exact List.nodup_cons.mpr ⟨nM, h1.nd⟩
end
end Kh

set_option Elab.async false
set_option linter.all false
set_option maxRecDepth 100000
set_option maxHeartbeats 4000000
namespace Kh
open PySem PySem.Spec L2
open PySem.W PySem.Calls PyProof.Rows PySem.HandSPX

/-! ### an own exception class whose __init__ says super().__init__(v); self.f = v -/
abbrev supBody (ns f : Str) (p0 p1 p2 p3 p4 p5 p6 p7 p8 p9 : Pos) : List Stmt :=
  [.Expr (.Call (.Attribute (.Call (.Name "super" p0) [] [] p1) "__init__" p2) [.Name ns p3] [] p4) p5, .Assign [.Attribute (.Name "self" p6) f p7] (.Name ns p8) p9]
structure SupX (P : Program) (K : Frag) (C fI : Addr) (ns f : Str) : Prop where
  T : OexC K C
  iC : findIn K (.ref C) "__init__" = some (some (.ref fI))
  tI : typeIn K (.ref fI) = some (.type "function")
  nf : findIn K (.ref C) f = some none
  al : ks_superIn K C C "__init__" = some (some (.builtin "ValueError.__init__"))
  sV : subIn K (.ref C) (.type "ValueError") = some true
  sC : mroIn K C (.ref C) = some true
  op : nsIn K cStatics "thirdparty.any" = some none
  tp : (P.main.scope.names.lookup ("super" : Str)).isSome = false
  fn : ∃ (oc : Value) (od : Option Addr) (osl : Array (Option Value)) (name qual : Str) (params : Arguments) (scope : Scope) (dV kV doc pm : Value) (an : Option Addr) (cda : Addr) (ct : Value) (cc : Addr) (p0 p1 p2 p3 p4 p5 p6 p7 p8 p9 : Pos) (ar : Arg)
      (ccl : Value) (cdd : Option Addr) (vs : Array Value) (ccs : Array (Option Value)) (file : Str) (tf : Tok) (cl : Value) (cld : Option Addr) (csl : Array (Option Value)),
    K.lookup fI = some ⟨oc, od, .func (ksFn name qual params (supBody ns f p0 p1 p2 p3 p4 p5 p6 p7 p8 p9) scope dV kV doc pm an (.ref cda) ct cc), osl⟩ ∧ codeIn K (.ref cda) qual = true ∧
    (params.posonlyargs ++ params.args).head? = some ar ∧ ar.arg = "self" ∧ scope.kind = .function ∧ scope.isGenerator = false ∧ scope.isCoroutine = false ∧ (∀ x ∈ scope.names, x.2 ≠ .cell) ∧
    scope.names.lookup ("super" : Str) = some .globalImplicit ∧ scope.names.lookup ("__class__" : Str) = some .free ∧ scope.names.lookup ("self" : Str) = some .local ∧ scope.names.lookup ns = some .local ∧
    K.lookup cda = some ⟨ccl, cdd, .fields vs, ccs⟩ ∧ vs[2]? = some (.str file tf) ∧ ((P.main.file : Str) == file) = true ∧ K.lookup cc = some ⟨cl, cld, .cell (some (.ref C)), csl⟩ ∧
    Binds K (ksFn name qual params (supBody ns f p0 p1 p2 p3 p4 p5 p6 p7 p8 p9) scope dV kV doc pm an (.ref cda) ct cc) ["self", ns] [] ∧
    (∀ env : Env, ∃ pl : Sem Bool, eval (.Call (.Attribute (.Call (.Name "super" p0) [] [] p1) "__init__" p2) [.Name ns p3] [] p4) env = (do
      let ov ← attributeBase (.Call (.Name "super" p0) [] [] p1) "__init__" env (eval (.Call (.Name "super" p0) [] [] p1) env)
      standAt p2.atName
      let (f, first) ← holding [ov] (getMethod ov "__init__" pl)
      callWith p4 f first (backTo p4 (starEach [.Name ns p3] env)) []))
  ne : (ns == ("self" : Str)) = false
  nd : (ns == ("__debug__" : Str)) = false

section
variable {prog : Program} {w : World} {A : Around} {E : Value → Shared → Prop} {h : Heap} {g : Array GenState} {d : Drawn} {t : Nat} {os : OsState}
variable {nm q : Str} {C N : Addr} {bs bm : List Value} {hdct : Bool} {sn : List Str} {sub : List Value} {ab : Bool} {col : Option Bool} {dd : Option Addr} {k0 k1 k2 k3 k5 : Option Value}
theorem call_mw {u e t0 : Addr} {rest : List Value} {Q : Value → Shared → Prop}
    (hC : h.get? C = some (excClassObj nm q C N bs bm hdct sn sub ab col dd k0 k1 k2 k3 k5 "ValueError.__new__")) (he : h.get? e = some (HandSPX.excO C t0)) (hu : h.get? u = some (kxs_mw "ValueError.__init__" e)) (hrest : rest.length ≤ sizeLine)
    (hq : ∀ h' t1, (∀ b o, b ≠ e → h.get? b = some o → h'.get? b = some o) → h'.get? e = some (HandSPX.excO C t1) → Q .none ⟨h', g, d, t, os⟩) :
    wpAny (model prog w) A (call (.ref u) rest) Q E ⟨h, g, d, t, os⟩ := by
  refine wpAny_call (codeAny_of_tree ?_)
  show wpAny _ A.in1 (callAny (.ref u) ⟨rest, []⟩) _ _ _
  simp only [callAny]
  refine wpAny_bind (wpAny_load hu ?_)
  simp only [kxs_mw, show (Value.type "method-wrapper" == Value.type "method" || Value.type "method-wrapper" == Value.type "builtin_function_or_method" || Value.type "method-wrapper" == Value.type "method-wrapper") = true by decide, if_true]
  refine W.KFB.if_so (by decide) ?_
  refine wpAny_bind (check_bound_init F.excBase_ValueError.toExcCallFacts hC he rfl ?_)
  refine wpAny_bind (wpAny_pure (wpAny_pure ?_))
  refine ⟨Code.quiet_builtin _ (by decide +kernel), codeAny_builtin F.excBase_ValueError.initEntry ?_⟩
  rw [Around.under_plainId F.excBase_ValueError.init.plain _]
  wp_walk
  refine hq _ h.objs.size (fun b o hb ho => ?_) ?_
  · rw [Heap.get?_update_other _ _ (Ne.symm hb)]
    exact Heap.get?_push_of_some _ ho
  · rw [Heap.get?_update_self _ (Heap.get?_push_of_some _ he) rfl]
    rfl
end
/-- what __init__ leaves of a fresh exception at x -/
structure InitEnd (h h' : Heap) (x C dx t1 : Addr) (f : Str) (v : Value) : Prop where
  keep : ∀ b o, b ≠ x → h.get? b = some o → h'.get? b = some o
  obj : h'.get? x = some { cls := .ref C, dict := some dx, data := .fields #[.ref t1, .none, .none, .none, .bool false, .none] }
  dbig : h.objs.size ≤ dx
  dne : dx ≠ x
  ns : h'.Ns1 dx (fun y => if y = f then some v else none)
structure OwnMade (h h' : Heap) (e C d : Addr) (f : Str) (v : Value) : Prop where
  keep : ∀ b o, h.get? b = some o → h'.get? b = some o
  new : h.objs.size ≤ e
  obj : ∃ oe vs, h'.get? e = some oe ∧ oe.cls = .ref C ∧ oe.dict = some d ∧ oe.data = .fields vs ∧ vs[1]? = some .none
  dbig : h.objs.size ≤ d
  dne : d ≠ e
  ns : h'.Ns1 d (fun y => if y = f then some v else none)
section
variable {prog : Program} {w : World} {A : Around} {E : Value → Shared → Prop} {R : Result → Shared → Prop} {s : Shared} {K : Frag} {mg mb : Str → Option Value} {C fI : Addr} {ns f : Str}
theorem sup_init (T : SupX prog K C fI ns f) {x t0 : Addr} {v : Value} (X : K.In s.heap) (hlim : s.heap.NoLimit) (hx : s.heap.get? x = some (excO C t0)) (hnx : K.lookup x = none) (hroom : A.depth < recursionLimit)
    (hg : s.heap.Ns mainGlobals mg) (hm : mg "super" = none) (hb : s.heap.Ns builtinsNs mb) (hbs : mb "super" = bootBuiltins "super")
    (hq : ∀ h' tk dx t1, InitEnd s.heap h' x C dx t1 f v → R (.ok (.ret .none)) { s with heap := h', toks := tk }) :
    codeAny (model prog w) A (.call (.ref fI) ⟨[.ref x, v], []⟩) R s := by
  obtain ⟨oc, od, osl, name, qual, params, scope, dV, kV, doc, pm, an, cda, ct, cc, p0, p1, p2, p3, p4, p5, p6, p7, p8, p9, ar, ccl, cdd, vs, ccs, file, tf, cl, cld, csl, ho, hcd, hp, har, hk, hgen, hco, hcell, ks, kc, kse, kn, hcode, hvs, hfile, hcc, hbn, hev⟩ := T.fn
  obtain ⟨nm, q, N, bs, bm, sn, sub, ab, col, dd, k0, k1, k2, k3, k5, hC, hbm⟩ := T.T.cls
  have hcl : clsIn K C = some { name := nm, bases := bs, mro := .ref C :: bm, ns := N, qualname := q, hasDict := true, slotNames := sn, subclasses := sub, abstract := ab, collection := col, hasDel := false } := by unfold clsIn; rw [hC] <;> rfl
  refine ks_codeAny_call_defAt (fd := ksFn name qual params (supBody ns f p0 p1 p2 p3 p4 p5 p6 p7 p8 p9) scope dV kV doc pm an (.ref cda) ct cc) (binds := [("self", .ref x), (ns, v)]) hroom (X _ _ ho) rfl hlim (codeRec_of X hcd) rfl
    (hbn s [.ref x, v] X rfl) hcell (fun y hy => ?_) (fun h₁ hns k => ?_) hco hgen hk
  · rcases List.mem_cons.mp hy with rfl | hy
    · exact kse
    · rcases List.mem_cons.mp hy with rfl | hy
      · exact kn
      · cases hy
  have X₁ : K.In h₁ := X.keeps k
  have hx₁ := k _ _ hx
  have e1 : List.lookup ns ([(("self" : Str), Value.ref x), (ns, v)].reverse) = some v := by simp [List.lookup]
  have e2 : List.lookup ("self" : Str) ([(("self" : Str), Value.ref x), (ns, v)].reverse) = some (.ref x) := by
    have n2 : (("self" : Str) == ns) = false := by
      have := T.ne
      cases z : (("self" : Str) == ns) with
      | false => rfl
      | true =>
        have z2 : ("self" : Str) = ns := by simpa using z
        rw [← z2] at this
        simp at this
    show List.lookup ("self" : Str) [(ns, v), (("self" : Str), Value.ref x)] = _
    rw [List.lookup_cons, n2]
    simp [List.lookup]
  obtain ⟨hh, gs, dr, tk, os⟩ := s
  have I₁ : InstAt h₁ x (excO C t0) C none := ⟨hx₁, rfl, rfl, trivial⟩
  have hCd : clsIn K C = some _ := hcl
  have hxC : x ≠ C := fun z => by rw [z, hC] at hnx; cases hnx
  obtain ⟨pl, hev⟩ := hev (ksEnv qual scope hh.objs.size fI (.ref cda) cc)
  refine ks_wpAt_execs_cons (ks_wpAt_Expr_any (ks_wpAt_MethodCall ?_ hev) (by show (scope.kind == .module && _) = false; rw [hk]; rfl) (by rfl))
  refine ks_wpAt_super_base (env := ksEnv qual scope hh.objs.size fI (.ref cda) cc) ks kc (by decide) rfl (X₁ _ _ ho) rfl hp rfl (X₁ _ _ hcode) rfl hvs hfile T.tp ?_
  refine ks_loadName_global hk ks (loadGlobal_builtin (env := ksEnv qual scope hh.objs.size fI (.ref cda) cc) (hg.keeps k) hm (hb.keeps k) (hbs.trans Boot.«super») ⟨rfl, ?_⟩)
  refine wpAny_loadName_free hk kc rfl ⟨_, X₁ _ _ hcc, rfl⟩ ?_
  rw [har]
  refine wpAny_loadName_local hk kse hns e2 ?_
  refine ks_wpAny_isType_cls (X₁ _ _ hC) rfl ⟨rfl, ?_⟩
  refine ks_wpAny_call_super (X₁ _ _ hC) rfl hx₁ rfl (fun c e => by cases e) (looks_mroIn X₁ T.sC) (fun h₂ hso k₂ => ?_)
  have X₂ : K.In h₂ := X₁.keeps k₂
  have hx₂ := k₂ _ _ hx₁
  have I₂ : InstAt h₂ x (excO C t0) C none := ⟨hx₂, rfl, rfl, trivial⟩
  have al := T.al
  unfold ks_superIn at al
  rw [hcl] at al
  refine kxs_getMethod kxs_ValueError hso (looks_opaque X₂ T.op) (l₀ := .ref C :: bm) ?_ rfl X₂ al (I₂.type.andThen (looks_subIn X₂ T.sV)) hxC (by decide) ?_
  · exact fun A Q E s k q => wpAny_bind ((looks_clsIn X₂ hcl) A _ E s k (wpAny_pure q))
  refine kxs_callWith (i := "ValueError.__init__") (x := x) (by rfl) (Calls.evalArgs_plain (Calls.spliced_cons ?_))
  have k₃ : ∀ b o, h₂.get? b = some o → (h₂.push (kxs_mw "ValueError.__init__" x)).get? b = some o := fun b o e => Heap.get?_push_of_some _ e
  have hns₃ := (hns.keeps k₂).keeps k₃
  refine wpAny_Name (wpAny_loadName_local hk kn hns₃ e1 (Calls.spliced_nil ⟨Heap.get?_push_at rfl rfl, ?_⟩)) T.nd
  refine call_mw ((X₂.keeps k₃) _ _ hC) (k₃ _ _ hx₂) (Heap.get?_push_at rfl rfl) (by show 1 ≤ sizeLine; decide) (fun h₄ t1 k₄ hx₄ => ?_)
  have kk : ∀ b o, b ≠ x → h₁.get? b = some o → h₄.get? b = some o := fun b o nb e => k₄ b o nb (k₃ _ _ (k₂ _ _ e))
  have neL : hh.objs.size ≠ x := fun z => absurd (Heap.lt_size hx) (by rw [z]; exact Nat.lt_irrefl _)
  have hns₄ : h₄.Ns hh.objs.size (fun y => List.lookup y ([(("self" : Str), Value.ref x), (ns, v)].reverse)) := by
    obtain ⟨o, es, ep, a1, r⟩ := hns
    exact ⟨o, es, ep, kk _ _ neL a1, r⟩
  have X₄ : K.In h₄ := fun b o e => kk b o (fun z => by rw [z, hnx] at e; cases e) (X₁ _ _ e)
  refine ks_wpAt_execs_cons (ks_wpAt_Assign_Attr ?_ (by rfl))
  refine wpAt_of_wpAny (wpAny_Name (wpAny_loadName_local hk kn hns₄ e1 ?_) T.nd)
  refine wpAny_Name (wpAny_loadName_local hk kse hns₄ e2 ?_) (by decide)
  refine set_plain X₄ (ox := excO C t1) (od := none) ⟨hx₄, rfl, rfl, trivial⟩ T.T.sa ?_
  refine exc_osa X₄ hx₄ hcl (show refsVE (.ref C :: bm) = true from hbm) rfl T.nf (fun h₅ tk₅ dx k₅ dn dne hx₅ hn₅ => ?_)
  have z : hh.objs.size ≤ h₄.objs.size := by
    obtain ⟨o, es, ep, a1, r⟩ := hns₄
    exact Nat.le_of_lt (Heap.lt_size a1)
  refine wpAt_of_wpAny (wpAny_execs_nil (hq h₅ tk₅ dx t1 ⟨fun b o nb e => k₅ b o nb (kk b o nb (k b o e)), hx₅, Nat.le_trans z dn, dne, hn₅⟩))
theorem sup_made (T : SupX prog K C fI ns f) {v : Value} (X : K.In s.heap) (hlim : s.heap.NoLimit) (hroom : A.depth + 1 < recursionLimit)
    (hg : s.heap.Ns mainGlobals mg) (hm : mg "super" = none) (hb : s.heap.Ns builtinsNs mb) (hbs : mb "super" = bootBuiltins "super")
    (hq : ∀ h' tk e d, OwnMade s.heap h' e C d f v → R (.ok (.ret (.ref e))) { s with heap := h', toks := tk }) :
    codeAny (model prog w) A (.call (.ref C) ⟨[v], []⟩) R s := by
  obtain ⟨nm, q, N, bs, bm, sn, sub, ab, col, dd, k0, k1, k2, k3, k5, hC, hbm⟩ := T.T.cls
  obtain ⟨hp, gs, dr, tk, os⟩ := s
  have k : ∀ b o, hp.get? b = some o → ((hp.push (kdv_tup [v])).push (excO C hp.objs.size)).get? b = some o := fun b o e => Heap.get?_push_of_some _ (Heap.get?_push_of_some _ e)
  have hget : ((hp.push (kdv_tup [v])).push (excO C hp.objs.size)).get? (hp.objs.size + 1) = some (excO C hp.objs.size) := by heap_get
  have hnx : K.lookup (hp.objs.size + 1) = none := by
    cases e : K.lookup (hp.objs.size + 1) with
    | none => rfl
    | some o =>
      have z : hp.get? (hp.objs.size + 1) = some o := X _ _ e
      exact absurd (Nat.lt_of_succ_lt (Heap.lt_size z)) (Nat.lt_irrefl _)
  refine call_own F.excBase_ValueError (fun X => refsVE_contains X bm hbm) (X _ _ hC) (looks_findIn X T.iC) (fun self => bind_fn X self T.tI) (by show 1 ≤ sizeLine; decide) ?_
  refine sup_init (s := ⟨(hp.push (kdv_tup [v])).push (excO C hp.objs.size), gs, dr, tk, os⟩) T (X.keeps k) (hlim.keeps k) hget hnx ?_ (hg.keeps k) hm (hb.keeps k) hbs fun h' tk' dx t1 ⟨k', hx, dn, dne, hns⟩ => ?_
  · show A.depth + 1 < recursionLimit
    exact hroom
  · have old : ∀ b o, hp.get? b = some o → h'.get? b = some o := fun b o e => k' b o (Nat.ne_of_lt (Nat.lt_succ_of_lt (Heap.lt_size e))) (k b o e)
    have z : hp.objs.size + 1 + 1 ≤ dx := by
      first
        | (simpa only [Heap.size_push] using dn)
        | exact dn
        | (have q := dn; rw [Heap.size_push, Heap.size_push] at q; exact q)
    exact ⟨rfl, hq h' tk' (hp.objs.size + 1) dx ⟨old, Nat.le_succ _, ⟨_, _, hx, rfl, rfl, rfl, rfl⟩, Nat.le_trans (Nat.le_trans (Nat.le_succ _) (Nat.le_succ _)) z, dne, hns⟩⟩
end
end Kh
namespace Kh
open PySem PySem.Spec L2
theorem relO_one {f : Str} {v : V} {v' : Value} (r : RelV v v') (g : Str) : RelO (List.lookup g [(f, v)]) (if g = f then some v' else none) := by
  by_cases hw : g = f
  · subst hw
    rw [if_pos rfl]
    have q : List.lookup g [(g, v)] = some v := by simp [List.lookup]
    rw [q]
    exact r
  · rw [if_neg hw]
    have qw : (g == f) = false := by simpa using hw
    have q2 : List.lookup g [(f, v)] = none := by simp [List.lookup, qw]
    rw [q2]
    trivial
section
variable {X : Cx} {C fI : Addr} {ns f : Str}
/-- C(e) -/
def tMkS (C : Addr) (f : Str) (ta : TA) : L2.St → Hp → XK → Prop := fun σ H Q => ta σ H fun vs H1 => ∃ v, vs = [v] ∧ ∀ d, H1 d = none → Q (.ref C) (some d) (upd H1 d (.xd [(f, v)]))
theorem pmk_sup {a : Expr} {ta : TA} {x : Str} {p pos : Pos} {k : Nat} (T : SupX X.prog X.K C fI ns f) (gC : X.mg x = some (.ref C)) (hms : X.mg "super" = none) (hr : Room k X.A) (ha : PA X [a] ta) (hg : Gl X x) (hdb : (x == ("__debug__" : Str)) = false := by decide)
    (he : starEach (a :: []) X.env = (false, eval a X.env) :: starEach [] X.env := by rfl) (hpl : (backTo pos (starEach [] X.env)).any (·.1) = false := by rfl) :
    PMk X (.Call (.Name x p) [a] [] pos) (tMkS C f ta) := by
  intro pins s σ H Q I h
  refine wpAny_Call_Name_kw (ld_glob I hg gC ?_ hdb)
  refine PySem.W.callWith_K (h₀ := X.base) I.ok.mod.kin T.T.kC (thn (ha.run pos pins s σ H _ I h) fun us s1 hh => ?_) he hpl
  obtain ⟨vs, H1, I1, r1, v, ev, q1⟩ := hh
  subst ev
  refine ⟨I1.kIn, ?_⟩
  cases r1 with
  | cons rv rn =>
    rename_i v' us'
    cases rn
    show wpAny _ _ (call (.ref C) [v']) _ _ _
    have hlim := I1.nolimit
    have hgl := I1.mod.glob.keeps I1.bk
    obtain ⟨mb, hb1, hb2⟩ := I1.mod.blt
    have hbl := hb1.keeps I1.bk
    obtain ⟨hp, g, dr, tk, os⟩ := s1
    refine wpAny_call (sup_made T I1.kIn hlim (by have := hr.dp; omega) hgl hms hbl (hb2 _ (by decide)) fun h' tk' e d M => ?_)
    show MkP X pins σ Q (.ref e) ⟨h', g, dr, tk', os⟩
    obtain ⟨oe, fv, hoe, hc, hd, hdat, h1⟩ := M.obj
    have hns := M.ns
    obtain ⟨G', g1, g2⟩ := restrict h' fun b => decide (b ≠ e)
    have gk : ∀ b, b ≠ e → G'.get? b = h'.get? b := fun b hb => g1 b (decide_eq_true hb)
    have ge : G'.get? e = none := g2 e (by simp)
    have old : ∀ b o, hp.get? b = some o → G'.get? b = some o := fun b o q => (gk b (Nat.ne_of_lt (Nat.lt_of_lt_of_le (Heap.lt_size q) M.new))).trans (M.keep b o q)
    have ob : ObjOk X.prog X.w (upd H1 d (.xd [(f, v)])) G' d (.xd [(f, v)]) :=
      ⟨_, hns.at (fun o q => (gk d M.dne).trans q), fun g => relO_one rv g⟩
    have J : Inv X pins σ (upd H1 d (.xd [(f, v)])) ⟨G', g, dr, tk', os⟩ := I1.laid (t' := tk') old M.dbig ob
    refine ⟨e, oe, fv, ⟨G', g, dr, tk', os⟩, _, .ref C, some d, rfl, J, fun b o q => ?_, ge, hoe, ⟨hc, hd⟩, hdat, h1, ?_, rfl, I1.bare, raises_own T.T.exC T.T.tyC, q1 d (I1.hok.fresh M.dbig)⟩
    · by_cases hb : b = e
      · have q' : G'.get? b = some o := q
        rw [hb, ge] at q'; cases q'
      · exact (gk b hb).symm.trans q
    · rw [upd_ne (Ne.symm M.dne)]
      exact I1.hok.fresh M.new
end
section
variable {X : Cx} {T : Bool} {τ : TEnv} {M : Mem} {P : PK'} {E : XKx} {e a b c : Expr} {es : List Expr} {pos p pos2 : Pos} {R : RK} {rest : List Stmt} {x n f ns : Str} {C fI : Addr} {k : Nat}
/-- raise C(e) -/
theorem ws_raise (hc : X.calm = true) (S : SupX X.prog X.K C fI ns f) (gC : X.mg x = some (.ref C)) (hms : X.mg "super" = none) (hr : Room k X.A)
    (h : EX X false e τ M (fun d M1 => R (.ex ⟨C, [f], [d]⟩ τ) M1) (fun y M1 => R (.ex y τ) M1)) (hg : Gl X x := by rfl) (hdb : (x == ("__debug__" : Str)) = false := by decide)
    (he : starEach (e :: []) X.env = (false, eval e X.env) :: starEach [] X.env := by rfl) (hpl : (backTo pos (starEach [] X.env)).any (·.1) = false := by rfl) :
    WS X T (.Raise (some (.Call (.Name x p) [e] [] pos)) none pos2 :: rest) τ M R := .mk fun W tk σ G H hE hH D hR => by
  refine ws_step (ps_raise hc tk (pmk_sup (ta := tWA X false [e]) S gC hms hr pa_W hg hdb he hpl)) ?_
  refine wa_cons (Q := fun vs H1 => ∃ v, vs = [v] ∧ ∀ d, H1 d = none → W (.ref C) (some d) σ (upd H1 d (.xd [(f, v)]))) he ?_
  refine h.run W tk σ G H hE hH _ ?_ (ex_out hR hE)
  intro d M1 v G1 H1 hp s1 h1 dv
  refine tWA_of pa_nil ?_
  refine ⟨v, rfl, fun dd hd => ?_⟩
  obtain ⟨s2, h2⟩ := Stp.new (o := .xd [(f, v)]) h1 hd
  exact hR _ _ _ _ hp (s1.trans s2) h2 σ (some dd) ((hE.up s1.gg).up s2.gg) (.inr ⟨dd, [v], rfl, upd_same, .cons (dv.up s2.gg) .nil⟩)
end
end Kh

set_option Elab.async false
set_option linter.all false
set_option maxRecDepth 100000
set_option maxHeartbeats 1000000
namespace Kh
open PySem PySem.Spec L2
section
variable {X : Cx} {T : Bool} {τ : TEnv} {M : Mem} {P : PK'} {E : XKx} {e a b c o value : Expr} {es : List Expr} {pos pos' apos tpos : Pos} {R : RK} {rest : List Stmt} {x : Str}
/-- the name of a built-in type -/
theorem ex_gty {n : String} (hm : X.mg x = none) (hv : bootBuiltins x = some (.type n)) (h : P (.raw (.ty n)) M) (hg : Gl X x := by rfl) (hn : x ≠ "__name__" := by decide) (hd : (x == ("__debug__" : Str)) = false := by decide) : EX X T (.Name x pos) τ M P E :=
  ex_c (pe_bltn (v := .ty n) hg hm hv rfl hn hd) (fun _ => den_raw) h
/-- a list cell is changed no more -/
def FrzP (P : PK') : PK' := fun d M => ∃ p ds M3, d = .raw (.ref p) ∧ M.Perm ((p, .lst ds) :: M3) ∧ P (.lst ds) M3
theorem ex_frz (h : EX X T e τ M (FrzP P) E) : EX X T e τ M P E := .mk fun W tk σ G H hE hH Q hP hX =>
  h.run W tk σ G H hE hH Q (fun d M2 v G2 H2 ⟨p, ds, M3, ed, pm, hp⟩ s h2 dv => by
    subst ed
    obtain ⟨G', s3, h3, d3⟩ := freezeL (h2.perm pm)
    rw [dv.raw_inv]
    exact hP _ _ _ _ _ hp ((s.perm (List.Perm.refl _) pm).trans s3) h3 d3) hX
/-- cells that nothing names any more -/
theorem Hst.drop {K : PySem.W.Frag} {G H : Hp} {A B : Mem} (h : Hst K G (A ++ B) H) : Hst K G A H := h.left
theorem Stp.drop {G H G2 H2 : Hp} {A B : Mem} (s : Stp G M H G2 (A ++ B) H2) : Stp G M H G2 A H2 := ⟨s.gg, s.hh, s.fr, fun b hb => s.ad b (by rw [adr_append]; exact List.mem_append_left _ hb)⟩
end
/-- the law's def at its script -/
theorem law_spS {K : PySem.W.Frag} {H : Hp} {a : Addr} {ns : List Int} {S : Spc} (hS : SqL K H a (ns.map V.int)) (h : S [.scr ns] [] (fun d _ => d = .bl true) E0') : toSp K S [.ref a] H (fun v _ => v = .bl true) fun _ _ _ => False :=
  ⟨H, [.scr ns], [], _, _, .cons (by simp only [Den]; exact ⟨a, rfl, hS⟩) .nil, ⟨Same.refl _, (fun _ h => by cases h), (fun _ h => by cases h), List.Pairwise.nil⟩, h, fun d M2 v G2 H2 e s h2 dv => by subst e; exact dv.bl_inv, noX⟩
/-! ### isinstance(d, int), isinstance(d, bool) of plain data -/
section
variable {K : PySem.W.Frag}
end
/-! ### calls of defs, all cells handed -/
def UpP {α : Type} (P : α → Mem → Prop) : α → Mem → Prop := fun d Mc => ∃ M2, (Mc ++ []).Perm M2 ∧ P d M2
theorem UpP.mk {α : Type} {P : α → Mem → Prop} {d : α} {M : Mem} (h : P d M) : UpP P d M := ⟨M, by rw [List.append_nil], h⟩
theorem ap_all {S : Spc} {ds : List Dat} {M : Mem} {P : PK'} {E : XKx} (h : S ds M (UpP P) (UpP E)) : AP S ds M P E := ⟨M, [], by rw [List.append_nil], h⟩
section
variable {X : Cx} {T : Bool} {τ : TEnv} {M : Mem} {P : PK'} {E : XKx} {e o : Expr} {es : List Expr} {pos p apos : Pos} {k : Nat} {f C : Addr} {fd : FuncData} {ps : List Str} {S : Spc} {x m qual : Str} {st : Stmt}
theorem ex_callF (F : FnD X.prog X.w X.K X.mg X.base k f fd ps S) (hr : Room k X.A) (hm : X.mg x = some (.ref f)) (FF : Fun X.K x qual st f fd) (hb : Binds X.K fd ps [])
    (h : EA X T (e :: es) τ M (fun ds M1 => S ds M1 (UpP P) (UpP E)) E) (hg : Gl X x := by rfl) (hdb : (x == ("__debug__" : Str)) = false := by decide) (he : starEach (e :: es) X.env = (false, eval e X.env) :: starEach es X.env := by rfl) (hpl : (backTo pos (starEach es X.env)).any (·.1) = false := by rfl) :
    EX X T (.Call (.Name x p) (e :: es) [] pos) τ M P E := ex_call (df := []) (dvs := []) F hr hm FF.kp hb .nil (fun _ => .nil) (.mk fun W tk σ G H hE hH Q hP hX => h.run W tk σ G H hE hH Q (fun ds M2 vs G2 H2 hs => hP ds M2 vs G2 H2 (by show AP S (ds ++ []) M2 P E; rw [List.append_nil]; exact ap_all hs)) hX) hg hdb he hpl
end
section
variable {X : Cx} {T : Bool} {τ : TEnv} {M : Mem} {R : RK} {rest : List Stmt}
/-- a, b = x, y with plain local names -/
theorem ws_par {x y : Str} {a b : Expr} {px py pt pos : Pos} {kt k2 pt2} (h : EA X false [a, b] τ M (fun ds M1 => ∃ d1 d2, ds = [d1, d2] ∧ WS X T rest ((τ.set (ixIn X.N x) (some d1)).set (ixIn X.N y) (some d2)) M1 R) (fun z M1 => R (.ex z τ) M1))
    (hc : X.calm = true := by rfl) (hi : X.N[ixIn X.N x]? = some x := by rfl) (hj : X.N[ixIn X.N y]? = some y := by rfl) (hij : ixIn X.N x ≠ ixIn X.N y := by first | decide | exact of_decide_eq_true (by kernel_rfl)) (hN : X.N.Nodup := by first | decide +kernel | exact of_decide_eq_true (by kernel_rfl))
    (hx : X.env.scope.names.lookup x = some .local := by rfl) (hy : X.env.scope.names.lookup y = some .local := by rfl)
    (hw : swappedStores [.Tuple [.Name x px, .Name y py] kt pt] (.Tuple [a, b] k2 pt2) X.env = pure (some [x, y]) := by rfl)
    (hs : swapsWithSole [.Tuple [.Name x px, .Name y py] kt pt] (.Tuple [a, b] k2 pt2) pos.line X.env = pure false := by rfl) :
    WS X T (.Assign [.Tuple [.Name x px, .Name y py] kt pt] (.Tuple [a, b] k2 pt2) pos :: rest) τ M R := .mk fun W tk σ G H hE hH D hR => tWSs_len fun hl => by
  refine ws_step (ps_par hc hN hi hj hij hx hy pa_W hw hs) ?_
  refine h.run W tk σ G H hE hH _ ?_ (ex_out hR hE)
  rintro ds M1 vs G1 H1 ⟨d1, d2, rfl, hk⟩ s1 h1 dv
  obtain ⟨v, u, rfl, e1, e2⟩ := two_inv dv
  refine ⟨v, u, rfl, ?_⟩
  have l1 : ixIn X.N x < σ.length := by rw [hl]; exact (List.getElem?_eq_some_iff.mp hi).1
  have l2 : ixIn X.N y < (σ.set (ixIn X.N x) (some v)).length := by rw [List.length_set, hl]; exact (List.getElem?_eq_some_iff.mp hj).1
  exact hk.run W tk _ G1 H1 (((hE.up s1.gg).set l1 e1).set l2 e2) h1 D (hR.step s1)
end
/-- ** of a wide base -/
def CPowW (i j : Int) : Prop := 0 ≤ j ∧ (Builtin.Int.intBits i : Int) * j ≤ 2 ^ 27
instance {i j : Int} : Decidable (CPowW i j) := inferInstanceAs (Decidable (_ ∧ _))
theorem op_powW {X : Cx} : OpR X (binaryOp .Pow) (rI CPowW fun i j => .int (i ^ j.toNat)) := opI fun _ _ _ _ _ _ _ hc q => PyProof.Rows.pow_int hc.1 hc.2 q
theorem o_powW {X : Cx} {T : Bool} {M : Mem} {P : PK'} {i j : Int} (hc : CPowW i j) (h : P (.int (i ^ j.toNat)) M) : OP X T (binaryOp .Pow) (.int i) (.int j) M P := op_IIc op_powW hc (fun _ => den_int) h
theorem WS.imp {X : Cx} {T : Bool} {τ : TEnv} {M : Mem} {R R' : RK} {ss : List Stmt} (h : WS X T ss τ M R') (hi : ∀ o M2, R' o M2 → R o M2) : WS X T ss τ M R := .mk fun W tk σ G H hE hH D hR =>
  h.run W tk σ G H hE hH D fun o M2 G2 H2 r s h2 => hR o M2 G2 H2 (hi _ _ r) s h2
end Kh

set_option Elab.async false
set_option linter.all false
set_option maxRecDepth 100000
set_option maxHeartbeats 1000000
namespace Kh
open PySem PySem.Spec L2
/-! ### data that are equal by their shape, or are one object -/
mutual
def eqT : Dat → Dat → Bool
  | .non, .non => true
  | .bl a, .bl b => decide (a = b)
  | .int i, .int j => decide (i = j)
  | .str s, .str t => decide (s = t)
  | .lst xs, .lst ys => eqTL xs ys
  | .tup xs, .tup ys => eqTL xs ys
  | .at a _, .at b _ => decide (a = b)
  | .raw (.ref a), .raw (.ref b) => decide (a = b)
  | _, _ => false
def eqTL : List Dat → List Dat → Bool
  | [], [] => true
  | x :: xs, y :: ys => eqT x y && eqTL xs ys
  | _, _ => false
end
mutual
def dpD : Dat → Nat
  | .lst xs => dpDL xs + 1
  | .tup xs => dpDL xs + 1
  | _ => 1
def dpDL : List Dat → Nat
  | [] => 0
  | x :: xs => max (dpD x) (dpDL xs)
end
theorem all_true (n : Nat) : ((List.range n).all fun _ => true) = true := List.all_eq_true.mpr fun _ _ => rfl
section
variable {X : Cx} {pins : List (Addr × Obj)} {σ : L2.St} {H G : Hp} {s : Shared}
open PySem.SeqAt (EqAt RcAt RcNeAt)
theorem eqTL_len : ∀ {xs ys : List Dat}, eqTL xs ys = true → xs.length = ys.length
  | [], [], _ => rfl
  | x :: xs, y :: ys, h => by
    simp only [eqTL, Bool.and_eq_true] at h
    simp only [List.length_cons, eqTL_len h.2]
  | [], _ :: _, h => by simp [eqTL] at h
  | _ :: _, [], h => by simp [eqTL] at h
mutual
theorem eqT_run (I : Inv X pins σ H s) (hs : Same G H) : ∀ (x y : Dat) (A : Around) (v u : V) (v' u' : Value), eqT x y = true → A.units + dpD x < cLine → Den X.K G x v → Den X.K G y u → RelV v v' → RelV u u' → EqAt A s v' u' true
  | .non, y, A, v, u, v', u', h, hu, dx, dy, r, r' => by
    cases y <;> simp [eqT] at h
    rw [dx.non_inv] at r; rw [dy.non_inv] at r'
    exact eqAt_same r r' rfl
  | .bl a, y, A, v, u, v', u', h, hu, dx, dy, r, r' => by
    cases y <;> simp [eqT] at h
    subst h
    rw [dx.bl_inv] at r; rw [dy.bl_inv] at r'
    exact eqAt_same r r' rfl
  | .int i, y, A, v, u, v', u', h, hu, dx, dy, r, r' => by
    cases y <;> simp [eqT] at h
    subst h
    rw [dx.int_inv] at r; rw [dy.int_inv] at r'
    exact eqAt_same r r' rfl
  | .str i, y, A, v, u, v', u', h, hu, dx, dy, r, r' => by
    cases y <;> simp [eqT] at h
    subst h
    rw [dx.str_inv] at r; rw [dy.str_inv] at r'
    exact eqAt_same r r' rfl
  | .at a d, y, A, v, u, v', u', h, hu, dx, dy, r, r' => by
    cases y <;> simp [eqT] at h
    subst h
    obtain ⟨rfl, _⟩ := dx.at_inv
    obtain ⟨rfl, _⟩ := dy.at_inv
    cases r; cases r'
    exact EqAt.same _
  | .lst xs, y, A, v, u, v', u', h, hu, dx, dy, r, r' => by
    cases y with
    | lst ys =>
      have h : eqTL xs ys = true := by simpa [eqT] using h
      have hu : A.units + (dpDL xs + 1) < cLine := by simpa only [dpD] using hu
      obtain ⟨a, vs, rfl, ga, da⟩ := dx.lst_inv
      obtain ⟨b, us, rfl, gb, db⟩ := dy.lst_inv
      cases r; cases r'
      by_cases e : a = b
      · subst e; exact EqAt.same _
      · obtain ⟨ws, r1, p1, _⟩ := I.list (SqL.of (hs _ _ ga))
        obtain ⟨zs, r2, p2, _⟩ := I.list (SqL.of (hs _ _ gb))
        have hz : ws.toArray.size = zs.toArray.size := by rw [List.size_toArray, List.size_toArray, ← r1.length, ← r2.length, da.length, db.length, eqTL_len h]
        refine EqAt.of_refs e ?_
        have := RcAt.lists (A := A) (e := fun _ => true) p1.isList p2.isList hz (by omega) (fun j h1 h2 => by
          have := eqTL_run I hs xs ys A.in1 vs us ws zs h (by show A.units + 1 + dpDL xs < cLine; omega) da db r1 r2 j (by simpa using h1) (by simpa using h2)
          simpa using this)
        rw [all_true] at this
        exact this
    | _ => simp [eqT] at h
  | .tup xs, y, A, v, u, v', u', h, hu, dx, dy, r, r' => by
    cases y with
    | tup ys =>
      have h : eqTL xs ys = true := by simpa [eqT] using h
      have hu : A.units + (dpDL xs + 1) < cLine := by simpa only [dpD] using hu
      obtain ⟨a, vs, rfl, ga, da⟩ := dx.tup_inv
      obtain ⟨b, us, rfl, gb, db⟩ := dy.tup_inv
      cases r; cases r'
      by_cases e : a = b
      · subst e; exact EqAt.same _
      · obtain ⟨ws, r1, p1, _⟩ := I.tuple (SqT.of (hs _ _ ga))
        obtain ⟨zs, r2, p2, _⟩ := I.tuple (SqT.of (hs _ _ gb))
        have hz : ws.toArray.size = zs.toArray.size := by rw [List.size_toArray, List.size_toArray, ← r1.length, ← r2.length, da.length, db.length, eqTL_len h]
        refine EqAt.of_refs e ?_
        have := RcAt.tuples (A := A) (e := fun _ => true) p1 p2 (by omega) (fun j h1 h2 => by
          have := eqTL_run I hs xs ys A.in1 vs us ws zs h (by show A.units + 1 + dpDL xs < cLine; omega) da db r1 r2 j (by simpa using h1) (by simpa using h2)
          simpa using this)
        rw [all_true, hz] at this
        simpa using this
    | _ => simp [eqT] at h
  | .raw w, y, A, v, u, v', u', h, hu, dx, dy, r, r' => by
    have e : ∃ a, w = .ref a ∧ y = .raw (.ref a) := by
      cases y with
      | raw z =>
        cases w <;> cases z <;> simp [eqT] at h
        subst h; exact ⟨_, rfl, rfl⟩
      | _ => cases w <;> simp [eqT] at h
    obtain ⟨a, rfl, rfl⟩ := e
    rw [dx.raw_inv] at r; rw [dy.raw_inv] at r'
    cases r; cases r'
    exact EqAt.same _
  | .dic0, y, A, v, u, v', u', h, hu, dx, dy, r, r' => by simp [eqT] at h
  | .scr ns, y, A, v, u, v', u', h, hu, dx, dy, r, r' => by simp [eqT] at h
  | .obj C ns ds, y, A, v, u, v', u', h, hu, dx, dy, r, r' => by simp [eqT] at h
  | .xn a dd ns ds, y, A, v, u, v', u', h, hu, dx, dy, r, r' => by simp [eqT] at h
theorem eqTL_run (I : Inv X pins σ H s) (hs : Same G H) : ∀ (xs ys : List Dat) (A : Around) (vs us : List V) (ws zs : List Value), eqTL xs ys = true → A.units + dpDL xs < cLine → DenL X.K G xs vs → DenL X.K G ys us → Vals vs ws → Vals us zs →
    ∀ j (h1 : j < ws.length) (h2 : j < zs.length), EqAt A s ws[j] zs[j] true
  | [], ys, A, vs, us, ws, zs, h, hu, dx, dy, r, r', j, h1, h2 => by
    rw [dx.nil_inv] at r
    cases r
    exact absurd h1 (Nat.not_lt_zero _)
  | x :: xs, ys, A, vs, us, ws, zs, h, hu, dx, dy, r, r', j, h1, h2 => by
    cases ys with
    | nil => simp [eqTL] at h
    | cons y ys =>
      simp only [eqTL, Bool.and_eq_true] at h
      have hu : A.units + max (dpD x) (dpDL xs) < cLine := by simpa only [dpDL] using hu
      obtain ⟨v, vr, rfl, dv, dvr⟩ := dx.cons_inv
      obtain ⟨u, ur, rfl, du, dur⟩ := dy.cons_inv
      cases r with
      | cons ra rb =>
        cases r' with
        | cons ra' rb' =>
          cases j with
          | zero => exact eqT_run I hs x y A v u _ _ h.1 (by omega) dv du ra ra'
          | succ j => exact eqTL_run I hs xs ys A vr ur _ _ h.2 (by omega) dvr dur rb rb' j (Nat.lt_of_succ_lt_succ h1) (Nat.lt_of_succ_lt_succ h2)
end
end
section
variable {X : Cx} {T : Bool} {τ : TEnv} {M : Mem} {P : PK'} {E : XKx} {e a b c o value : Expr} {es : List Expr} {pos pos' apos tpos : Pos} {R : RK} {rest : List Stmt} {x : Str}
open PySem.SeqAt (EqAt RcAt RcNeAt)
theorem o_eqLT {xs ys : List Dat} (h : eqTL xs ys = true) (hd : dpDL xs ≤ 60) (hu : X.A.units + 64 < cLine) (hP : P (.bl true) M) : OP X T (compareOp .Eq) (.lst xs) (.lst ys) M P := by
  intro G H v u hH dx dy Q hQ pins s σ v' u' _ I r r'
  obtain ⟨a, vs, rfl, ga, da⟩ := dx.lst_inv
  obtain ⟨b, us, rfl, gb, db⟩ := dy.lst_inv
  cases r; cases r'
  obtain ⟨ws, r1, p1, _⟩ := I.list (SqL.of (hH.sub _ _ ga))
  obtain ⟨zs, r2, p2, _⟩ := I.list (SqL.of (hH.sub _ _ gb))
  have hz : ws.toArray.size = zs.toArray.size := by rw [List.size_toArray, List.size_toArray, ← r1.length, ← r2.length, da.length, db.length, eqTL_len h]
  have := RcAt.lists (A := X.A) (e := fun _ => true) p1.isList p2.isList hz (by omega) (fun j h1 h2 => by
    have := eqTL_run I hH.sub xs ys X.A.in1 vs us ws zs h (by show X.A.units + 1 + dpDL xs < cLine; omega) da db r1 r2 j (by simpa using h1) (by simpa using h2)
    simpa using this)
  rw [all_true] at this
  exact this _ _ _ _ ⟨.bl true, H, I, rfl, hQ _ _ _ _ _ hP Stp.refl hH den_bl⟩
/-- two lists of different lengths -/
theorem o_eqLn {xs ys : List Dat} (h : xs.length ≠ ys.length) (hu : X.A.units + 64 < cLine) (hP : P (.bl false) M) : OP X T (compareOp .Eq) (.lst xs) (.lst ys) M P := by
  intro G H v u hH dx dy Q hQ pins s σ v' u' _ I r r'
  obtain ⟨a, vs, rfl, ga, da⟩ := dx.lst_inv
  obtain ⟨b, us, rfl, gb, db⟩ := dy.lst_inv
  cases r; cases r'
  obtain ⟨ws, r1, p1, _⟩ := I.list (SqL.of (hH.sub _ _ ga))
  obtain ⟨zs, r2, p2, _⟩ := I.list (SqL.of (hH.sub _ _ gb))
  have hz : (ws.toArray.size != zs.toArray.size) = true := by
    rw [List.size_toArray, List.size_toArray, ← r1.length, ← r2.length, da.length, db.length]
    simpa using h
  exact RcAt.lists_lengths (A := X.A) p1.isList p2.isList hz (by omega) _ _ _ _ ⟨.bl false, H, I, rfl, hQ _ _ _ _ _ hP Stp.refl hH den_bl⟩
end
/-! d is told equal to itself: no object of the heap but by its place -/
mutual
def selfE : Dat → Bool
  | .non | .bl _ | .int _ | .str _ | .at _ _ => true
  | .lst xs => selfEL xs
  | .tup xs => selfEL xs
  | _ => false
def selfEL : List Dat → Bool
  | [] => true
  | x :: xs => selfE x && selfEL xs
end
mutual
theorem eqT_self : ∀ d : Dat, selfE d = true → eqT d d = true
  | .non, _ => rfl
  | .bl _, _ => by simp [eqT]
  | .int _, _ => by simp [eqT]
  | .str _, _ => by simp [eqT]
  | .at _ _, _ => by simp [eqT]
  | .lst xs, h => by simp only [eqT]; exact eqTL_self xs (by simpa [selfE] using h)
  | .tup xs, h => by simp only [eqT]; exact eqTL_self xs (by simpa [selfE] using h)
  | .raw _, h => by simp [selfE] at h
  | .dic0, h => by simp [selfE] at h
  | .scr _, h => by simp [selfE] at h
  | .obj _ _ _, h => by simp [selfE] at h
  | .xn _ _ _ _, h => by simp [selfE] at h
theorem eqTL_self : ∀ ds : List Dat, selfEL ds = true → eqTL ds ds = true
  | [], _ => rfl
  | d :: ds, h => by
    simp only [selfEL, Bool.and_eq_true] at h
    simp only [eqTL, Bool.and_eq_true]
    exact ⟨eqT_self d h.1, eqTL_self ds h.2⟩
end
end Kh

set_option Elab.async false
set_option linter.all false
set_option maxRecDepth 100000
set_option maxHeartbeats 1000000
namespace Kh
open PySem PySem.Spec L2
section
variable {X : Cx} {T : Bool} {τ : TEnv} {M : Mem} {P : PK'} {E : XKx} {e a b c o value : Expr} {es : List Expr} {pos pos' p apos tpos : Pos} {R : RK} {rest : List Stmt} {x f n : Str} {C D fa : Addr} {k : Nat} {fd : FuncData} {ps : List Str} {S : Spc}
/-! ### self.f = e -/
def putD (f : Str) (v : Dat) : List (Str × Dat) → List (Str × Dat)
  | [] => [(f, v)]
  | (g, x) :: r => if g = f then (g, v) :: r else (g, x) :: putD f v r
theorem denF_put {K : PySem.W.Frag} {G : Hp} {d : Dat} {v : V} (h : Den K G d v) : ∀ {fs : List (Str × Dat)} {vs : List (Str × V)}, DenF K G fs vs → DenF K G (putD f d fs) (putF f v vs)
  | [], [], _ => ⟨rfl, .cons h .nil⟩
  | [], _ :: _, q => by have := q.1; simp at this
  | _ :: _, [], q => by have := q.1; simp at this
  | (g, x) :: fs, (g', u) :: vs, ⟨q1, q2⟩ => by
    rw [List.map_cons, List.map_cons] at q1
    obtain ⟨e1, e2⟩ := List.cons.inj q1
    have e1 : g' = g := e1
    subst e1
    obtain ⟨u', r, e, hu, t⟩ := (show DenL K G (x :: fs.map (·.2)) (u :: vs.map (·.2)) from q2).cons_inv
    obtain ⟨rfl, rfl⟩ := List.cons.inj e
    by_cases z : g' = f
    · simp only [putD, putF, if_pos z]
      exact ⟨by simp [e2], .cons h t⟩
    · simp only [putD, putF, if_neg z]
      have ih := denF_put h ⟨e2, t⟩
      exact ⟨by simp only [List.map_cons, ih.1], .cons hu ih.2⟩
theorem DenF.length {K : PySem.W.Frag} {G : Hp} {fs : List (Str × Dat)} {vs : List (Str × V)} (h : DenF K G fs vs) : vs.length = fs.length := by
  have := congrArg List.length h.1
  simpa using this
theorem ws_fld (h : EX X false value τ M (fun d M1 => EX X false o τ M1 (fun od M2 => ∃ q C dx fs, od = .raw (.ref q) ∧ (q, MC.ins C dx fs) ∈ M2 ∧ Cls X.K C ∧ NoAttr X.K C f ∧ fs.length < 1000 ∧ WS X T rest τ (putC q (.ins C dx (putD f d fs)) M2) R) (fun x M2 => R (.ex x τ) M2)) (fun x M1 => R (.ex x τ) M1))
    (hs : swapsWith value (some (.Attribute o f pos')) pos.line X.env = pure false := by rfl) : WS X T (.Assign [.Attribute o f pos'] value pos :: rest) τ M R := .mk fun W tk σ G H hE hH D hR => by
  refine ws_step (ps_fld (pe_W (e := o)) (pe_W (e := value)) hs) ?_
  refine h.run W tk σ G H hE hH _ ?_ (ex_out hR hE)
  intro d M1 v G1 H1 ho s1 h1 dv
  refine ho.run W tk σ G1 H1 (hE.up s1.gg) h1 _ ?_ ((ex_out hR hE).step s1)
  rintro od M2 ov G2 H2 ⟨q, C, dx, fs, rfl, hm, hc, hn, hl, hw⟩ s2 h2 dov
  obtain ⟨vs, g1, g2, g3⟩ := h2.mem _ hm
  have hcell : MH X.K G2 (upd H2 q (.ins C dx (putF f v vs))) (q, .ins C dx (putD f d fs)) := by
    have ne : dx ≠ q := fun z => by rw [z, g1] at g2; cases g2
    exact ⟨_, upd_same, by rw [upd_ne ne]; exact g2, denF_put (dv.up s2.gg) g3⟩
  obtain ⟨s3, h3⟩ := put_ok (c' := .ins C dx (putD f d fs)) (H2 := upd H2 q (.ins C dx (putF f v vs))) h2 hm rfl (fun b hb => upd_ne hb) hcell
  exact ⟨q, C, dx, vs, dov.raw_inv, g1, hc, hn, by rw [g3.length]; exact hl, hw.run W tk σ G2 _ ((hE.up s1.gg).up s2.gg) h3 D (hR.step ((s1.trans s2).trans s3))⟩
/-! ### C(), C without __init__ -/
/-! ### own == -/
/-- x == y, x an instance of the class at C with an own __eq__ at fa -/
theorem o_eqOwn {x y : Dat} {t : Value} (F : FnD X.prog X.w X.K X.mg X.base k fa fd ps S) (hr : Room k X.A) (hs : PySem.W.findIn X.K (.ref C) "__eq__" = some (some (.ref fa))) (hf : PySem.W.isFn X.K (.ref fa) = true) (hb : Binds X.K fd ps [])
    (hx : IsI C "__eq__" M x) (ty : TyD X.K M y t) (hn : PySem.W.notFirst X.K C t = true) (h : S [x, y] M (UpP fun d M2 => ∃ b, d = .bl b ∧ P (.bl b) M2) (UpP E0')) : OP X T (compareOp .Eq) x y M P := by
  intro G H v u hH dx dy Q hP pins s σ v' u' _ I rx ry
  obtain ⟨a, dxa, fs, rfl, ea, _⟩ := hx.get hH dx
  obtain rfl : v' = Value.ref a := rx
  obtain ⟨mA, J, _⟩ := ins_get I.hok ea
  obtain ⟨od, J, _⟩ := J.look
  obtain ⟨m, hF⟩ := I.fr
  obtain ⟨Pr, Z, pz, _⟩ := kit_of I ry (tyD_ok ty hH dy)
  have hsp : toSp X.K S [.ref a, u] H (fun z H' => ∃ b, z = .bl b ∧ Q (.bl b) H') (fun _ _ _ => False) :=
    ap_toSp (ap_all h) (.cons dx (.cons dy .nil)) hH (fun d M2 z G2 H2 ⟨b, ed, hp⟩ s2 h2 dz => by subst ed; exact ⟨b, dz.bl_inv, hP _ _ _ _ _ hp s2 h2 den_bl⟩) noX
  refine PySem.W.cmp_K (op := .Eq) (tb := t) hr.units0 hF I.ok.mod.kin J (Z.ty _ _ I.kIn pz) hn hs hf ?_
  refine wpAny_mono (run_d (dsv := []) (dvs := []) (W := fun _ _ _ _ => False) (us := [.ref a, u']) (vs := [.ref a, u]) F hr hb .nil takes0 I (.cons rfl (.cons ry .nil)) (by rw [List.append_nil]; exact hsp)) (fun r s' q => ?_) fun _ _ z => z
  obtain ⟨z, H', I', rz, b, ez, q⟩ := q
  subst ez
  cases rz
  exact ⟨.bl b, H', I', rfl, q⟩
end
/-! ### defs with defaults -/
structure FunV (K : PySem.W.Frag) (x qual : Str) (st : Stmt) (f : Addr) (fd : FuncData) : Prop where
  ex : ∃ (oc : Value) (od : Option Addr) (dV kV doc pm : Value) (an : Option Addr) (cdv ct : Value) (osl : Array (Option Value)),
    fd = PySem.W.fnOf x qual (defArgs st) (defBody st) (defScope st) dV kV doc pm an cdv ct ∧ K.lookup f = some ⟨oc, od, .func fd, osl⟩ ∧ PySem.W.codeIn K cdv qual = true
  kp : PySem.W.keepIn K (.ref f) = true
theorem fn_dV {P : Program} {w : World} {K : PySem.W.Frag} {mg : Str → Option Value} {base : Heap} {x qual : Str} {st : Stmt} {f : Addr} {fd : FuncData} {N ps : List Str} {k : Nat} {S : Spc} (T : Bool) (F : FunV K x qual st f fd) (Sc : FnScope N ps (defScope st)) (hT : T = true → ∃ x ∈ ps, (defScope st).names.lookup x = some .local) (len : ∀ ds M P E, S ds M P E → ds.length = ps.length)
    (body : ∀ (cdv : Value) (A : Around) (outer : List Env) (s : Shared) (H : Hp) (E : XK), Room k (A.deeper (PyProof.Rows.envOfC qual (defScope st) s.heap.objs.size f cdv)) → ∀ ds M Pd PE, S ds M Pd PE →
      WS (cxOf (L2.CX P w) P w K mg base N qual (defScope st) f cdv A outer s H E) T (defBody st) (startT N ds) M (retR Pd PE)) : FnD P w K mg base (k + 1) f fd ps S := by
  obtain ⟨oc, od, dV, kV, doc, pm, an, cdv, ct, osl, rfl, lk, hcd⟩ := F.ex
  refine fn_w (T := T) lk hcd Sc hT (fun vs H Q E h => ?_) (fun A outer s H vs Q E hr h => ?_)
  · obtain ⟨G, ds, M, Pd, PE, dv, _, hs, _⟩ := h
    rw [dv.length]; exact len _ _ _ _ hs
  · obtain ⟨G, ds, M, Pd, PE, dv, hH, hs, hP, hX⟩ := h
    exact (body cdv A outer s H E hr ds M Pd PE hs).run _ (takes_of rfl rfl rfl rfl) _ G H (denE_start dv) hH _ (cs_ret hP fun x M2 G2 H2 d p s h dx σ => hX x M2 G2 H2 d p s h dx)
/-! ### isinstance between classes -/
section
variable {K : PySem.W.Frag} {C D : Addr} {b : Bool}
theorem kit_self {t : Value} : PySem.W.kitOne K t t = some true := by
  unfold PySem.W.kitOne
  rw [if_pos (by simp)]
end
section
variable {X : Cx} {T : Bool} {τ : TEnv} {M : Mem} {P : PK'} {E : XKx} {e : Expr}
/-- an object of the heap, told with its place -/
def isR : Dat → Bool
  | .dic0 | .lst _ | .tup _ | .obj _ _ _ => true
  | _ => false
end
theorem atI_nat {α : Type} {xs : List α} {k : Nat} {x : α} (h : xs[k]? = some x) : atI xs (k : Int) = some x := by
  have hk : k < xs.length := (List.getElem?_eq_some_iff.mp h).1
  have e : ixN xs.length (k : Int) = some k := by
    unfold ixN
    simp [hk]
  unfold atI
  rw [e]; exact h
end Kh

set_option Elab.async false
set_option linter.all false
set_option maxRecDepth 100000
set_option maxHeartbeats 1000000
namespace Kh
open PySem PySem.Spec L2

/-! ### what a def computes, as a plain function: a value, an error, or out of what is told -/
inductive EK where
  | file | number | script | list | write | history | content | text | busy | closed
  deriving DecidableEq
/-- which own class -/
inductive OK where
  | file | full | keep | lean | dig | script | history | store | copier
  deriving DecidableEq
/-- a value of any kind; tag: the very object at an address -/
inductive Any where
  | non | bl (b : Bool) | int (i : Int) | str (s : Str) | lst (xs : List Any) | tup (xs : List Any) | dic | obj (k : OK) (fs : List Any) | tag (q : Addr) (x : Any) | cel (q : Addr)
mutual
def anyD (cl : OK → Addr × List Str) : Any → Dat
  | .non => .non
  | .bl b => .bl b
  | .int i => .int i
  | .str s => .str s
  | .lst xs => .lst (anyDL cl xs)
  | .tup xs => .tup (anyDL cl xs)
  | .dic => .dic0
  | .obj k fs => .obj (cl k).1 (cl k).2 (anyDL cl fs)
  | .tag q x => .at q (anyD cl x)
  | .cel q => .raw (.ref q)
def anyDL (cl : OK → Addr × List Str) : List Any → List Dat
  | [] => []
  | x :: xs => anyD cl x :: anyDL cl xs
end
theorem anyDL_map {cl : OK → Addr × List Str} : ∀ {xs : List Any}, anyDL cl xs = xs.map (anyD cl)
  | [] => by simp [anyDL]
  | x :: xs => by simp [anyDL, anyDL_map (xs := xs)]
structure Er where
  k : EK
  v : Any
inductive Res (α : Type) where
  | ok (a : α) | err (x : Er) | bad
  /-- whatever address is given out -/
  | all (f : Addr → Res α)
/-- how a turn of a loop ends -/
inductive Ctl (σ ρ : Type) where
  | nx (s : σ) | bk (s : σ) | rt (r : ρ)
namespace Res
def bind {α β : Type} : Res α → (α → Res β) → Res β
  | .ok a, k => k a
  | .err x, _ => .err x
  | .bad, _ => .bad
  | .all f, k => .all fun q => (f q).bind k
def Out {α : Type} : Res α → (α → Prop) → (Er → Prop) → Prop
  | .ok a, P, _ => P a
  | .err x, _, E => E x
  | .bad, _, _ => False
  | .all f, P, E => ∀ q, (f q).Out P E
/-- where nothing may be raised -/
def ne {α : Type} : Res α → Res α
  | .ok a => .ok a
  | .all f => .all fun q => (f q).ne
  | _ => .bad
end Res
section
variable {α β σ ρ : Type}
@[simp] theorem bind_ok {a : α} {k : α → Res β} : (Res.ok a).bind k = k a := rfl
@[simp] theorem bind_err {x : Er} {k : α → Res β} : (Res.err x).bind k = .err x := rfl
@[simp] theorem bind_bad {k : α → Res β} : (Res.bad).bind k = .bad := rfl
@[simp] theorem ne_ok {a : α} : (Res.ok a).ne = .ok a := rfl
@[simp] theorem bind_all {f : Addr → Res α} {k : α → Res β} : (Res.all f).bind k = .all fun q => (f q).bind k := rfl
theorem bind_bind {γ : Type} {k : α → Res β} {l : β → Res γ} : ∀ {m : Res α}, (m.bind k).bind l = m.bind fun a => (k a).bind l
  | .ok _ => rfl
  | .err _ => rfl
  | .bad => rfl
  | .all f => by
    show Res.all (fun q => ((f q).bind k).bind l) = Res.all fun q => (f q).bind fun a => (k a).bind l
    congr 1; funext q; exact bind_bind
theorem ob {k : α → Res β} {P : β → Prop} {E : Er → Prop} : ∀ {m : Res α}, (m.bind k).Out P E → m.Out (fun a => (k a).Out P E) E
  | .ok _, h => h
  | .err _, h => h
  | .bad, h => h
  | .all f, h => fun q => ob (m := f q) (h q)
theorem out_mono {P P' : α → Prop} {E E' : Er → Prop} : ∀ {m : Res α}, m.Out P E → (∀ a, P a → P' a) → (∀ x, E x → E' x) → m.Out P' E'
  | .ok _, h, hp, _ => hp _ h
  | .err _, h, _, he => he _ h
  | .bad, h, _, _ => h
  | .all f, h, hp, he => fun q => out_mono (m := f q) (h q) hp he
theorem ne_out {P : α → Prop} {E E' : Er → Prop} : ∀ {m : Res α}, m.ne.Out P E → m.Out P E'
  | .ok _, h => h
  | .err _, h => h.elim
  | .bad, h => h
  | .all f, h => fun q => ne_out (m := f q) (h q)
theorem cif {c : Bool} {A B : Res α} {P : α → Prop} {E : Er → Prop} (h : (cond c A B).Out P E) {X Y : Prop} (a : A.Out P E → X) (b : B.Out P E → Y) : (c = true → X) ∧ (c = false → Y) := by
  cases c with
  | true => exact ⟨fun _ => a h, fun z => nomatch z⟩
  | false => exact ⟨(fun z => nomatch z), fun _ => b h⟩
/-- a condition that must hold -/
@[irreducible] def guard (c : Prop) [Decidable c] (a : α) : Res α := if c then .ok a else .bad
theorem gd {c : Prop} [Decidable c] {a : α} {P : α → Prop} {E : Er → Prop} (h : (guard c a).Out P E) : c ∧ P a := by
  unfold guard at h
  split at h
  · exact ⟨‹_›, h⟩
  · exact h.elim
theorem guard_ok {c : Prop} [Decidable c] {a : α} (h : c) : guard c a = .ok a := by unfold guard; exact if_pos h
/-! loops -/
def Ctl.go (k : σ → Res (Ctl σ ρ)) : Ctl σ ρ → Res (Ctl σ ρ)
  | .nx s => k s
  | .bk s => .ok (.nx s)
  | .rt r => .ok (.rt r)
def Ctl.fin (k : σ → Res β) (r : ρ → Res β) : Ctl σ ρ → Res β
  | .nx s => k s
  | .bk s => k s
  | .rt x => r x
def forR (f : σ → α → Res (Ctl σ ρ)) : List α → σ → Res (Ctl σ ρ)
  | [], s => .ok (.nx s)
  | x :: xs, s => (f s x).bind (Ctl.go (forR f xs))
def foldR (f : σ → α → Res σ) : List α → σ → Res σ
  | [], s => .ok s
  | x :: xs, s => (f s x).bind (foldR f xs)
@[simp] theorem foldR_nil {f : σ → α → Res σ} {s : σ} : foldR f [] s = .ok s := rfl
@[simp] theorem foldR_cons {f : σ → α → Res σ} {s : σ} {x : α} {xs : List α} : foldR f (x :: xs) s = (f s x).bind (foldR f xs) := rfl
@[simp] theorem forR_nil {f : σ → α → Res (Ctl σ ρ)} {s : σ} : forR f [] s = .ok (.nx s) := rfl
@[simp] theorem forR_cons {f : σ → α → Res (Ctl σ ρ)} {s : σ} {x : α} {xs : List α} : forR f (x :: xs) s = (f s x).bind (Ctl.go (forR f xs)) := rfl
@[simp] theorem go_nx {k : σ → Res (Ctl σ ρ)} {s : σ} : Ctl.go k (.nx s) = k s := rfl
@[simp] theorem go_bk {k : σ → Res (Ctl σ ρ)} {s : σ} : Ctl.go k (.bk s) = .ok (.nx s) := rfl
@[simp] theorem go_rt {k : σ → Res (Ctl σ ρ)} {r : ρ} : Ctl.go k (.rt r) = .ok (.rt r) := rfl
@[simp] theorem fin_nx {k : σ → Res β} {r : ρ → Res β} {s : σ} : Ctl.fin k r (.nx s) = k s := rfl
@[simp] theorem fin_bk {k : σ → Res β} {r : ρ → Res β} {s : σ} : Ctl.fin k r (.bk s) = k s := rfl
@[simp] theorem fin_rt {k : σ → Res β} {r : ρ → Res β} {x : ρ} : Ctl.fin k r (.rt x) = r x := rfl
def compL (f : α → Res (Option β)) : List α → Res (List β)
  | [] => .ok []
  | x :: xs => (f x).bind fun o => (compL f xs).bind fun r => .ok (o.toList ++ r)
def compR (f : α → Res (Option β)) (xs : List α) : Res (List β) := if xs.length ≤ sizeLine then (compL f xs).ne else .bad
/-- with a state -/
def compSL (f : σ → α → Res (Option β × σ)) : List α → σ → Res (List β × σ)
  | [], s => .ok ([], s)
  | x :: xs, s => (f s x).bind fun o => (compSL f xs o.2).bind fun r => .ok (o.1.toList ++ r.1, r.2)
def compS (f : σ → α → Res (Option β × σ)) (xs : List α) (s : σ) : Res (List β × σ) := if xs.length ≤ sizeLine then (compSL f xs s).ne else .bad
def andR (a b : Res Bool) : Res Bool := a.bind fun t => cond t b (.ok false)
def orR (a b : Res Bool) : Res Bool := a.bind fun t => cond t (.ok true) b
def notR (a : Res Bool) : Res Bool := a.bind fun t => .ok (!t)
@[simp] theorem andR_ok {a : Bool} {b : Res Bool} : andR (.ok a) b = cond a b (.ok false) := rfl
@[simp] theorem orR_ok {a : Bool} {b : Res Bool} : orR (.ok a) b = cond a (.ok true) b := rfl
@[simp] theorem notR_ok {a : Bool} : notR (.ok a) = .ok (!a) := rfl
@[simp] theorem cond_ok {c : Bool} {a b : α} : (cond c (Res.ok a) (.ok b)) = .ok (cond c a b) := by cases c <;> rfl
end

/-! ### values of types -/
abbrev lstD {α : Type} (e : α → Dat) (xs : List α) : Dat := .lst (xs.map e)
abbrev vtpD {α : Type} (e : α → Dat) (xs : List α) : Dat := .tup (xs.map e)
abbrev pairD {α β : Type} (e : α → Dat) (f : β → Dat) (p : α × β) : Dat := .tup [e p.1, f p.2]
abbrev optD {α : Type} (e : α → Dat) : Option α → Dat
  | none => .non
  | some x => e x
/-- a sign as a text -/
abbrev chS (c : Nat) : Str := ⟨#[c]⟩
abbrev chD (c : Nat) : Dat := .str (chS c)
abbrev signsL (z : Str) : List Nat := z.cps.toList
def rangeL (lo : Int) (n : Nat) : List Int := (List.range n).map fun (i : Nat) => lo + (i : Int)
def rangeC (lo c : Int) (n : Nat) : List Int := (List.range n).map fun (i : Nat) => lo + (i : Int) * c
def enumL {α : Type} (xs : List α) : List (Int × α) := xs.zipIdx.map fun q => ((q.2 : Int), q.1)
theorem rngD_map {lo : Int} {n : Nat} : rngD lo n = (rangeL lo n).map Dat.int := by simp [rngD, rangeL]
theorem rngC_map {lo c : Int} {n : Nat} : rngC lo c n = (rangeC lo c n).map Dat.int := by simp [rngC, rangeC]
theorem enuD_map {α : Type} {e : α → Dat} {xs : List α} : enuD (xs.map e) = (enumL xs).map (pairD Dat.int e) := by
  simp [enuD, enumL, List.zipIdx_map, Function.comp_def]
/-! ### operations that want something -/
def small62 (j : Int) : Prop := -(2 ^ 62) ≤ j ∧ j < 2 ^ 62
instance {j : Int} : Decidable (small62 j) := inferInstanceAs (Decidable (_ ∧ _))
def pdiv (i j : Int) : Res Int := guard (0 < j ∧ j.natAbs.log2 < 9000) (i / j)
def pmod (i j : Int) : Res Int := guard (0 < j) (i % j)
def pmul (i j : Int) : Res Int := guard (i.natAbs.log2 + j.natAbs.log2 < 1000000) (i * j)
def pcat (a b : Str) : Res Str := guard (a.length + b.length ≤ sizeLine) (a ++ b)
def pcatL {α : Type} (a b : List α) : Res (List α) := guard (a.length + b.length ≤ sizeLine) (a ++ b)
def pix {α : Type} (xs : List α) (i : Int) : Res α := match atI xs i with | some x => .ok x | none => .bad
def pixS (z : Str) (i : Int) : Res Nat := if z.length ≤ sizeLine then pix (signsL z) i else .bad
def pslS (z : Str) (lo hi : Option Int) : Res Str := guard (z.length ≤ sizeLine) (cutS z lo hi)
def plenS (z : Str) : Res Int := guard (z.length ≤ sizeLine) (z.length : Int)
def papp {α : Type} (xs : List α) (x : α) : Res (List α) := guard (xs.length < sizeLine) (xs ++ [x])
def pset {α : Type} (xs : List α) (i : Int) (x : α) : Res (List α) := match ixN xs.length i with | some j => .ok (xs.set j x) | none => .bad

section
variable {X : Cx} {T : Bool} {τ : TEnv} {M A B : Mem} {P : PK'} {E : XKx} {e a b c o : Expr} {es : List Expr} {pos p apos tpos : Pos} {α β σ ρ : Type} {E1 : Er → Prop} {q : Addr}
theorem r_div {i j : Int} {Q : Int → Prop} (h : (pdiv i j).Out Q E1) (hk : ∀ z, Q z → P (.int z) M) : OP X T (binaryOp .FloorDiv) (.int i) (.int j) M P := o_div (gd h).1 (hk _ (gd h).2)
theorem r_mod {i j : Int} {Q : Int → Prop} (h : (pmod i j).Out Q E1) (hk : ∀ z, Q z → P (.int z) M) : OP X T (binaryOp .Mod) (.int i) (.int j) M P := o_mod (gd h).1 (hk _ (gd h).2)
theorem r_mul {i j : Int} {Q : Int → Prop} (h : (pmul i j).Out Q E1) (hk : ∀ z, Q z → P (.int z) M) : OP X T (binaryOp .Mult) (.int i) (.int j) M P := o_mul (gd h).1 (hk _ (gd h).2)
theorem r_cat {i j : Str} {Q : Str → Prop} (h : (pcat i j).Out Q E1) (hk : ∀ z, Q z → P (.str z) M) : OP X T (binaryOp .Add) (.str i) (.str j) M P := o_cat (gd h).1 (hk _ (gd h).2)
theorem r_catL (f : α → Dat) {xs ys : List α} {Q : List α → Prop} (h : (pcatL xs ys).Out Q E1) (hk : ∀ z, Q z → P (lstD f z) M) : OP X T (binaryOp .Add) (lstD f xs) (lstD f ys) M P :=
  o_catL (by rw [List.length_map, List.length_map]; exact (gd h).1) (by rw [← List.map_append]; exact hk _ (gd h).2)
theorem pix_out {xs : List α} {i : Int} {Q : α → Prop} (h : (pix xs i).Out Q E1) : ∃ x, atI xs i = some x ∧ Q x := by
  unfold pix at h
  cases e : atI xs i with
  | some x => rw [e] at h; exact ⟨x, rfl, h⟩
  | none => rw [e] at h; exact h.elim
theorem atI_map {f : α → β} {xs : List α} {i : Int} {x : α} (h : atI xs i = some x) : atI (xs.map f) i = some (f x) := by
  unfold atI at h ⊢
  rw [List.length_map]
  cases e : ixN xs.length i with
  | none => rw [e] at h; cases h
  | some j => rw [e] at h; simp only [Option.bind_some] at h ⊢; rw [List.getElem?_map, h]; rfl
theorem r_ix {K : PySem.W.Frag} (f : α → Dat) {xs : List α} {i : Int} {Q : α → Prop} (h : (pix xs i).Out Q E1) (hk : ∀ z, Q z → P (f z) M) : IQ K (lstD f xs) (.int i) M P :=
  let ⟨x, h1, h2⟩ := pix_out h; i_lst (atI_map h1) (hk x h2)
theorem r_ixScr {K : PySem.W.Frag} {xs : List Int} {i : Int} {Q : Int → Prop} (h : (pix xs i).Out Q E1) (hk : ∀ z, Q z → P (.int z) M) : IQ K (.scr xs) (.int i) M P :=
  let ⟨x, h1, h2⟩ := pix_out h; i_scr h1 (hk x h2)
/-- in a cell behind the cells A -/
theorem r_ixC {K : PySem.W.Frag} (A : Mem) (f : α → Dat) {xs : List α} {i : Int} {Q : α → Prop} (h : (pix xs i).Out Q E1) (hk : ∀ z, Q z → P (f z) (A ++ (q, .lst (xs.map f)) :: B)) : IQ K (.raw (.ref q)) (.int i) (A ++ (q, .lst (xs.map f)) :: B) P :=
  let ⟨x, h1, h2⟩ := pix_out h; i_cell (List.mem_append_right _ List.mem_cons_self) (atI_map h1) (hk x h2)
theorem r_ixS {K : PySem.W.Frag} {z : Str} {i : Int} {Q : Nat → Prop} (h : (pixS z i).Out Q E1) (hk : ∀ c, Q c → P (chD c) M) : IQ K (.str z) (.int i) M P := by
  unfold pixS at h
  split at h
  · obtain ⟨x, h1, h2⟩ := pix_out h
    exact i_str ‹_› h1 (hk x h2)
  · exact h.elim
theorem r_slS {z : Str} {lo hi : Option Int} {Q : Str → Prop} (h : (pslS z lo hi).Out Q E1) (hk : ∀ z, Q z → P (.str z) M) : SQ X (.str z) lo hi M P := l_str (gd h).1 (hk _ (gd h).2)
theorem c_lenT (f : α → Dat) {xs : List α} (h : P (.int xs.length) M) : BC X (.builtin "len") [lstD f xs] M P := c_len_lst (by rw [List.length_map]; exact h)
theorem r_lenS {z : Str} {Q : Int → Prop} (h : (plenS z).Out Q E1) (hk : ∀ z, Q z → P (.int z) M) : BC X (.builtin "len") [.str z] M P := c_len_str (gd h).1 (hk _ (gd h).2)
theorem c_minT {i j : Int} (h : P (.int (min i j)) M) (hc : X.calm = true := by rfl) : BC X (.builtin "min") [.int i, .int j] M P := c_min hc (by
  have e : (if j < i then j else i) = min i j := by omega
  rw [e]; exact h)
theorem c_maxT {i j : Int} (h : P (.int (max i j)) M) (hc : X.calm = true := by rfl) : BC X (.builtin "max") [.int i, .int j] M P := c_max hc (by
  have e : (if j > i then j else i) = max i j := by omega
  rw [e]; exact h)
theorem c_sumT {ns : List Int} (h : P (.int ns.sum) M) (hc : X.calm = true := by rfl) : BC X (.builtin "sum") [lstD Dat.int ns] M P := c_sum hc rfl h
theorem c_listT (f : α → Dat) {xs : List α} (h : P (lstD f xs) M) : BC X (.type "list") [lstD f xs] M P := c_list_lst h
theorem hst_put {K : PySem.W.Frag} {G H H2 : Hp} {c' : MC} {c : MC} (h : Hst K G (A ++ (q, c) :: B) H) (hc : adr1 (q, c) = adr1 (q, c')) (hk : ∀ b, b ≠ q → H2 b = H b) (hn : MH K G H2 (q, c')) :
    Stp G (A ++ (q, c) :: B) H G (A ++ (q, c') :: B) H2 ∧ Hst K G (A ++ (q, c') :: B) H2 := cell_put h hc (by cases c <;> simp [adr1]) hk hn
theorem b_app (A : Mem) (f : α → Dat) {xs : List α} {x : α} {Q : List α → Prop} (h : (papp xs x).Out Q E1) (hk : ∀ ys, Q ys → P .non (A ++ (q, .lst (ys.map f)) :: B)) : BMr X "list.append" (.raw (.ref q)) [f x] (A ++ (q, .lst (xs.map f)) :: B) P := by
  obtain ⟨hl, hq⟩ := gd h
  refine ⟨rAppend, mt_append, fun G H v vs hH dv dvs Q hP => ?_⟩
  obtain ⟨u, r, rfl, du, t⟩ := dvs.cons_inv
  obtain rfl := t.nil_inv
  obtain ⟨ys, g, dx⟩ := hH.mem _ (List.mem_append_right _ List.mem_cons_self)
  rw [dv.raw_inv]
  obtain ⟨s2, h2⟩ := hst_put (c' := .lst ((xs ++ [x]).map f)) (H2 := upd H q (.lst (ys ++ [u]))) hH rfl (fun b hb => upd_ne hb) ⟨_, upd_same, by rw [List.map_append]; exact dx.snoc du⟩
  exact ⟨q, ys, u, rfl, rfl, g, by rw [dx.length, List.length_map]; exact hl, hP _ _ _ _ _ (hk _ hq) s2 h2 den_non⟩
theorem r_app (A : Mem) (f : α → Dat) {xs : List α} (h : EX X T o τ M (fun d M1 => d = .raw (.ref q) ∧ M1 = A ++ (q, .lst (xs.map f)) :: B ∧ EA X T (e :: es) τ M1 (fun ds M2 => BMr X "list.append" d ds M2 P) E) E)
    (hbase : attributeBase o "append" X.env (eval o X.env) = eval o X.env := by rfl)
    (hfew : ((backTo tpos (starEach (e :: es) X.env)).all (fun x => !x.1) && (backToKw tpos (keywordEach [] X.env)).all (fun x => x.1.isSome) && decide ((e :: es).length + ([] : List Keyword).length + (if ([] : List Keyword).isEmpty then 0 else 1) < 30)) = true := by rfl)
    (hline : (apos.endLine == tpos.line) = true := by rfl) (hs : starEach (e :: es) X.env = (false, eval e X.env) :: starEach es X.env := by rfl) (hplain : (backTo tpos (starEach es X.env)).any (·.1) = false := by rfl) :
    EX X T (.Call (.Attribute o "append" apos) (e :: es) [] tpos) τ M P E := ex_append (h.imp (fun d M1 ⟨e1, e2, e3⟩ => ⟨by rw [e1, e2]; exact .cell (List.mem_append_right _ List.mem_cons_self), e3⟩) fun _ _ x => x) hbase hfew hline hs hplain
/-! calls -/
theorem outU {m : Res α} {f : α → Dat} {ex : Er → Exn} {Q : α → Prop} (h : m.Out Q E1) (hk : ∀ r, Q r → P (f r) M) (hx : ∀ x, E1 x → E (ex x) M) : m.Out (fun r => UpP P (f r) M) (fun x => UpP E (ex x) M) :=
  out_mono h (fun r q => UpP.mk (hk r q)) fun x q => UpP.mk (hx x q)
end

/-! ### a def's ends: what it made itself is left behind -/
def retD (P : PK') (E : XKx) : RK
  | .rt d, M => ∃ A B, M.Perm (A ++ B) ∧ P d A
  | .nx _, M => ∃ A B, M.Perm (A ++ B) ∧ P .non A
  | .ex x _, M => ∃ A B, M.Perm (A ++ B) ∧ E x A
  | _, _ => False
theorem csD {K : PySem.W.Frag} {G H : Hp} {M : Mem} {P : PK'} {E : XKx} {D : Ends} {W : WX} (h : CS' K G M H (retR P E) D W) : CS' K G M H (retD P E) D W := fun o M2 G2 H2 r s h2 => by
  cases o with
  | nx τ => obtain ⟨A, B, pm, r⟩ := r; exact h (.nx τ) A G2 H2 r (s.perm (List.Perm.refl _) pm).drop (h2.perm pm).drop
  | rt d => obtain ⟨A, B, pm, r⟩ := r; exact h (.rt d) A G2 H2 r (s.perm (List.Perm.refl _) pm).drop (h2.perm pm).drop
  | ex x τ => obtain ⟨A, B, pm, r⟩ := r; exact h (.ex x τ) A G2 H2 r (s.perm (List.Perm.refl _) pm).drop (h2.perm pm).drop
  | bk τ => exact r.elim
  | ct τ => exact r.elim
theorem WS.ends {X : Cx} {T : Bool} {τ : TEnv} {M : Mem} {P : PK'} {E : XKx} {ss : List Stmt} (h : WS X T ss τ M (retD P E)) : WS X T ss τ M (retR P E) := .mk fun W tk σ G H hE hH D hR => h.run W tk σ G H hE hH D (csD hR)
/-- dropped at an end: the cells L, made here -/
theorem dN {M : Mem} (L : Mem) {d : Dat} {P : PK'} (h : P d M) : ∃ A B, (L ++ M).Perm (A ++ B) ∧ P d A := ⟨M, L, List.perm_append_comm, h⟩
theorem dX {M : Mem} (L : Mem) {x : Exn} {E : XKx} (h : E x M) : ∃ A B, (L ++ M).Perm (A ++ B) ∧ E x A := ⟨M, L, List.perm_append_comm, h⟩

/-! ### ifs and loops by what they compute -/
section
variable {X : Cx} {T : Bool} {τ : TEnv} {M : Mem} {P : PK'} {E : XKx} {t e iter tg : Expr} {p q body rest : List Stmt} {pos : Pos} {α β σ ρ : Type} {E1 : Er → Prop} {R : RK}
/-- a value by itself, its reading goes on behind it -/
theorem exJ {m : Res α} (f : α → Dat) {Q : α → Prop} (h : m.Out Q E1) (he : m.Out Q E1 → EX X T e τ M (fun d M1 => M1 = M ∧ ∃ v, d = f v ∧ Q v) E) (hk : ∀ v, Q v → P (f v) M) : EX X T e τ M P E :=
  (he h).imp (fun d M1 ⟨e1, v, e2, q⟩ => by rw [e1, e2]; exact hk v q) fun _ _ x => x
theorem etJ {m : Res Bool} {Q : Bool → Prop} {Pb : Bool → Mem → Prop} (h : m.Out Q E1) (he : m.Out Q E1 → ET X T e τ M (fun k M1 => M1 = M ∧ Q k) E) (hk : ∀ v, Q v → Pb v M) : ET X T e τ M Pb E :=
  (he h).imp (fun k M1 ⟨e1, q⟩ => by rw [e1]; exact hk k q) fun _ _ x => x
theorem ws_ifJ {m : Res σ} {Q : σ → Prop} (JJ : (σ → Prop) → TEnv → Mem → Prop) (h : m.Out Q E1)
    (hif : m.Out Q E1 → ET X T t τ M (fun k M1 => (k = true → WS X T p τ M1 (thenR (JJ Q) R)) ∧ (k = false → WS X T q τ M1 (thenR (JJ Q) R))) (fun x M1 => R (.ex x τ) M1))
    (hk : ∀ τ' M', JJ Q τ' M' → WS X T rest τ' M' R) : WS X T (.If t p q pos :: rest) τ M R :=
  ws_if ((hif h).imp (fun k M1 ⟨h1, h2⟩ => ⟨fun e => (h1 e).imp fun o M2 r => by cases o <;> first | exact hk _ _ r | exact r, fun e => (h2 e).imp fun o M2 r => by cases o <;> first | exact hk _ _ r | exact r⟩) fun _ _ x => x)
/-- what a loop over ds wants; what a comprehension over ds wants -/
def ForQ (X : Cx) (T : Bool) (tg : Expr) (body rest : List Stmt) (τ : TEnv) (R : RK) (ds : List Dat) (M1 : Mem) (Ok : Mem → Prop) : Prop :=
  ∃ I : Nat → TEnv → Mem → Prop, I 0 τ M1 ∧ (∀ i τ M, I i τ M → Ok M) ∧
      (∀ i d τ M, ds[i]? = some d → I i τ M → GX X T tg d τ M (fun τ2 M2 => WS X T body τ2 M2 (loopR (I (i + 1)) (fun τ M => WS X T rest τ M R) R)) (fun x M2 => R (.ex x τ) M2)) ∧
      (∀ τ M, I ds.length τ M → WS X T rest τ M R)
def LcQ (X : Cx) (scope : Scope) (vs : List Nat) (tg : Expr) (ifs : List Expr) (elt : Expr) (τ : TEnv) (ds : List Dat) (M1 : Mem) (Ok : Mem → Prop) (P : PK') : Prop :=
  ds.length ≤ sizeLine ∧ ∃ I : Nat → List Dat → Mem → Prop, I 0 [] M1 ∧ (∀ i acc M, I i acc M → Ok M) ∧
      (∀ i d acc M, ds[i]? = some d → I i acc M → ∀ (s : Shared) (H : Hp) (C : Addr) (cl : List (Str × Addr)) (fp : List Addr), GC (Cx.Bk X scope s H C cl fp) vs tg d (wipeT τ vs) M (fun τ2 M2 => ∀ (s : Shared) (H : Hp) (C : Addr) (cl : List (Str × Addr)) (fp : List Addr),
        EFs (Cx.Bk X scope s H C cl fp) ifs τ2 M2 (fun b M3 => (b = true → ∀ (s : Shared) (H : Hp) (C : Addr) (cl : List (Str × Addr)) (fp : List Addr), EX (Cx.Bk X scope s H C cl fp) false elt τ2 M3 (fun y M4 => I (i + 1) (acc ++ [y]) M4) E0') ∧ (b = false → I (i + 1) acc M3)))) ∧
      (∀ acc M, I ds.length acc M → P (.lst acc) M)
theorem ws_forT (hi : EI X tg iter τ M (fun ds M1 Ok => ForQ X T tg body rest τ R ds M1 Ok) (fun x M1 => R (.ex x τ) M1))
    (hp : PassesOwn (model X.prog X.w) X.A X.env X.xe := by first | exact PassesOwn.never | exact passes_of rfl | assumption) (hc : X.calm = true := by rfl) (hs : ∀ x, foldedSetIterable iter X.env x = pure x := by intro _; rfl) : WS X T (.For tg iter body [] pos :: rest) τ M R := ws_for hi hp hc hs
theorem ex_lcT {scope : Scope} {ifs : List Expr} {elt : Expr} (own : List (Str × Nat)) (h : EI X tg iter τ M (fun ds M1 Ok => LcQ X scope (own.map (·.2)) tg ifs elt τ ds M1 Ok P) E)
    (ok : BlkOk X.N X.env.scope scope own := by exact blkOk_by (by first | decide +kernel | kernel_rfl)) (hN : X.N.Nodup := by first | decide +kernel | exact of_decide_eq_true (by kernel_rfl)) (hc : X.calm = true := by rfl) (hs : ∀ x, foldedSetIterable iter X.env x = pure x := by intro _; rfl) :
    EX X T (.ListComp elt [⟨tg, iter, ifs, 0⟩] scope pos) τ M P E := ex_lc own h ok hN hc hs
theorem ws_setLcT {x : Str} {px : Pos} {scope : Scope} {ifs : List Expr} {elt : Expr} {lpos : Pos} (own : List (Str × Nat)) (h : EI X tg iter τ M (fun ds M1 Ok => LcQ X scope (own.map (·.2)) tg ifs elt τ ds M1 Ok (fun d M => WS X T rest (τ.set (ixIn X.N x) (some d)) M R)) (fun x M1 => R (.ex x τ) M1))
    (hi : X.N[ixIn X.N x]? = some x := by rfl) (hyl : X.env.scope.names.lookup x = some .local := by rfl) (hsw : swapsWith (.ListComp elt [⟨tg, iter, ifs, 0⟩] scope lpos) (some (.Name x px)) pos.line X.env = pure true := by exact sw_true rfl rfl rfl (by first | decide +kernel | kernel_rfl))
    (ok : BlkOk X.N X.env.scope scope own := by exact blkOk_by (by first | decide +kernel | kernel_rfl)) (hN : X.N.Nodup := by first | decide +kernel | exact of_decide_eq_true (by kernel_rfl)) (hc : X.calm = true := by rfl) (hs : ∀ x, foldedSetIterable iter X.env x = pure x := by intro _; rfl) :
    WS X T (.Assign [.Name x px] (.ListComp elt [⟨tg, iter, ifs, 0⟩] scope lpos) pos :: rest) τ M R := ws_setLc own h hi hyl hsw ok hN hc hs
theorem GX.impP {X : Cx} {T : Bool} {tg : Expr} {d : Dat} {τ : TEnv} {M : Mem} {Pg Pg' : TEnv → Mem → Prop} {Eg : XKx} (hp : ∀ τ M, Pg τ M → Pg' τ M) (hg : GX X T tg d τ M Pg Eg) : GX X T tg d τ M Pg' Eg :=
  .mk fun W tk σ G H v hE hH dv Q hP hX => hg.run W tk σ G H v hE hH dv Q (fun τ2 M2 G2 H2 σ2 r => hP τ2 M2 G2 H2 σ2 (hp _ _ r)) hX
theorem GC.impP {X : Cx} {vs : List Nat} {tg : Expr} {d : Dat} {τ : TEnv} {M : Mem} {Pg Pg' : TEnv → Mem → Prop} (hp : ∀ τ M, Pg τ M → Pg' τ M) (hg : GC X vs tg d τ M Pg) : GC X vs tg d τ M Pg' :=
  fun σ G H v hE hH dv Q hQ => hg σ G H v hE hH dv Q fun τ' M' G' H' σ' r => hQ τ' M' G' H' σ' (hp _ _ r)
theorem foldT {xs : List α} (f : α → Dat) {g : σ → α → Res σ} {s0 : σ} {M1 : Mem} {Ok : Mem → Prop} (J : σ → TEnv → Mem → Prop) {Q : σ → Prop} (h : (foldR g xs s0).Out Q E1) (h0 : J s0 τ M1) (hOk : ∀ s τ M, J s τ M → Ok M)
    (step : ∀ x s τ M (N : σ → Prop), J s τ M → (g s x).Out N E1 → GX X T tg (f x) τ M (fun τ2 M2 => WS X T body τ2 M2 (loopR (fun τ M => ∃ s, J s τ M ∧ N s) (fun τ M => WS X T rest τ M R) R)) (fun x M2 => R (.ex x τ) M2))
    (fin : ∀ s τ M, J s τ M → Q s → WS X T rest τ M R) :
    ForQ X T tg body rest τ R (xs.map f) M1 Ok := by
  refine ⟨fun i τ M => ∃ s, J s τ M ∧ (foldR g (xs.drop i) s).Out Q E1, ⟨s0, h0, h⟩, fun i τ M ⟨s, h1, _⟩ => hOk s τ M h1, ?_, ?_⟩
  · rintro i d τ M hd ⟨s, h1, h2⟩
    rw [List.getElem?_map] at hd
    obtain ⟨x, hx, rfl⟩ := Option.map_eq_some_iff.mp hd
    obtain ⟨hi, rfl⟩ := List.getElem?_eq_some_iff.mp hx
    rw [List.drop_eq_getElem_cons hi] at h2
    exact step _ s τ M _ h1 (ob h2)
  · rintro τ M ⟨s, h1, h2⟩
    rw [List.length_map, List.drop_length] at h2
    exact fin s τ M h1 h2
theorem forT {xs : List α} (f : α → Dat) {g : σ → α → Res (Ctl σ ρ)} {s0 : σ} {M1 : Mem} {Ok : Mem → Prop} (J : σ → TEnv → Mem → Prop) {Q : Ctl σ ρ → Prop} (h : (forR g xs s0).Out Q E1) (h0 : J s0 τ M1) (hOk : ∀ s τ M, J s τ M → Ok M)
    (step : ∀ x s τ M (N : Ctl σ ρ → Prop), J s τ M → (g s x).Out N E1 → (∀ r, N (.rt r) → Q (.rt r)) → GX X T tg (f x) τ M (fun τ2 M2 => WS X T body τ2 M2 (loopR (fun τ M => ∃ s, J s τ M ∧ N (.nx s)) (fun τ M => ∃ s, J s τ M ∧ N (.bk s)) R)) (fun x M2 => R (.ex x τ) M2))
    (fin : ∀ s τ M, J s τ M → Q (.nx s) → WS X T rest τ M R) :
    ForQ X T tg body rest τ R (xs.map f) M1 Ok := by
  refine ⟨fun i τ M => ∃ s, J s τ M ∧ (forR g (xs.drop i) s).Out Q E1, ⟨s0, h0, h⟩, fun i τ M ⟨s, h1, _⟩ => hOk s τ M h1, ?_, ?_⟩
  · rintro i d τ M hd ⟨s, h1, h2⟩
    rw [List.getElem?_map] at hd
    obtain ⟨x, hx, rfl⟩ := Option.map_eq_some_iff.mp hd
    obtain ⟨hi, rfl⟩ := List.getElem?_eq_some_iff.mp hx
    rw [List.drop_eq_getElem_cons hi] at h2
    refine GX.impP (fun τ2 M2 hw => ?_) (step _ s τ M _ h1 (ob h2) fun r z => z)
    refine hw.imp fun o M3 r => ?_
    cases o with
    | nx τ3 => exact r
    | ct τ3 => exact r
    | bk τ3 => obtain ⟨s3, j3, q3⟩ := r; exact fin s3 τ3 M3 j3 q3
    | rt d => exact r
    | ex x τ3 => exact r
  · rintro τ M ⟨s, h1, h2⟩
    rw [List.length_map, List.drop_length] at h2
    exact fin s τ M h1 h2
/-- the tuple that a comprehension wants -/
theorem compT {xs : List α} (f : α → Dat) (f2 : β → Dat) {g : α → Res (Option β)} {M1 : Mem} {Ok : Mem → Prop} {vs : List Nat} {scope : Scope} {ifs : List Expr} {elt : Expr} {Q : List β → Prop} (h : (compR g xs).Out Q E1) (hOk : Ok M1)
    (step : ∀ x (N : Option β → Prop), (g x).Out N (fun _ => False) → ∀ (s : Shared) (H : Hp) (C : Addr) (cl : List (Str × Addr)) (fp : List Addr), GC (Cx.Bk X scope s H C cl fp) vs tg (f x) (wipeT τ vs) M1 (fun τ2 M2 => ∀ (s : Shared) (H : Hp) (C : Addr) (cl : List (Str × Addr)) (fp : List Addr),
        EFs (Cx.Bk X scope s H C cl fp) ifs τ2 M2 (fun b M3 => (b = true → ∀ (s : Shared) (H : Hp) (C : Addr) (cl : List (Str × Addr)) (fp : List Addr), EX (Cx.Bk X scope s H C cl fp) false elt τ2 M3 (fun y M4 => M4 = M1 ∧ ∃ v, y = f2 v ∧ N (some v)) E0') ∧ (b = false → M3 = M1 ∧ N none))))
    (fin : ∀ ys, Q ys → P (lstD f2 ys) M1) :
    LcQ X scope vs tg ifs elt τ (xs.map f) M1 Ok P := by
  unfold compR at h
  split at h
  case isFalse => exact h.elim
  rename_i hl
  have h : (compL g xs).Out Q (fun _ => False) := ne_out h
  refine ⟨by rw [List.length_map]; exact hl, fun i acc M => M = M1 ∧ ∃ ys : List β, acc = ys.map f2 ∧ (compL g (xs.drop i)).Out (fun r => Q (ys ++ r)) (fun _ => False), ⟨rfl, [], rfl, h⟩, fun i acc M ⟨e, _⟩ => by rw [e]; exact hOk, ?_, ?_⟩
  · rintro i d acc M hd ⟨rfl, ys, rfl, h2⟩ s H C cl fp
    rw [List.getElem?_map] at hd
    obtain ⟨x, hx, rfl⟩ := Option.map_eq_some_iff.mp hd
    obtain ⟨hi, rfl⟩ := List.getElem?_eq_some_iff.mp hx
    rw [List.drop_eq_getElem_cons hi] at h2
    refine GC.impP (fun τ2 M2 hw => ?_) (step _ _ (ob h2) s H C cl fp)
    intro s H C cl fp σ G H' hE hH Q' hQ
    refine hw s H C cl fp σ G H' hE hH Q' fun b M3 G3 H3 ⟨p1, p2⟩ s3 h3 => hQ b M3 G3 H3 ⟨fun eb s H C cl fp => ?_, fun eb => ?_⟩ s3 h3
    · refine (p1 eb s H C cl fp).imp (fun y M4 ⟨e4, v, ev, hv⟩ => ?_) fun _ _ x => x
      subst ev
      refine ⟨e4, ys ++ [v], by simp, ?_⟩
      have hv := ob hv
      refine out_mono hv (fun r q => ?_) fun _ z => z
      have : Q (ys ++ ((some v).toList ++ r)) := q
      simpa using this
    · obtain ⟨e3, hv⟩ := p2 eb
      refine ⟨e3, ys, rfl, ?_⟩
      exact out_mono (ob hv) (fun r q => by have : Q (ys ++ ((none : Option β).toList ++ r)) := q; simpa using this) fun _ z => z
  · rintro acc M ⟨rfl, ys, rfl, h2⟩
    rw [List.length_map, List.drop_length] at h2
    have : Q (ys ++ []) := h2
    rw [List.append_nil] at this
    exact fin ys this
end
/-! tests by what they compute -/
section
variable {X : Cx} {T : Bool} {τ : TEnv} {M : Mem} {E : XKx} {a b : Expr} {rest : List Expr} {pos : Pos} {E1 : Er → Prop} {Q : Bool → Prop}
theorem exA {ma mb : Res Bool} (h : (andR ma mb).Out Q E1) (ha : ∀ Q', ma.Out Q' E1 → EX X T a τ M (fun d M1 => M1 = M ∧ ∃ k, d = .bl k ∧ Q' k) E) (hb : mb.Out Q E1 → EX X T (.BoolOp .And (b :: rest) pos) τ M (fun d M1 => M1 = M ∧ ∃ k, d = .bl k ∧ Q k) E) :
    EX X T (.BoolOp .And (a :: b :: rest) pos) τ M (fun d M1 => M1 = M ∧ ∃ k, d = .bl k ∧ Q k) E :=
  ex_and ((ha _ (ob h)).imp (fun d M1 ⟨e, k, ek, q⟩ => by
    subst e
    refine ⟨k, ek, ?_⟩
    cases k with
    | true => exact ⟨fun _ => hb q, fun z => nomatch z⟩
    | false => exact ⟨(fun z => nomatch z), fun _ => ⟨rfl, _, rfl, q⟩⟩) fun _ _ x => x)
end
end Kh

set_option Elab.async false
set_option linter.all false
set_option maxRecDepth 100000
set_option maxHeartbeats 1000000
namespace Kh
open PySem PySem.Spec L2

/-! ### data that is compared by its parts -/
structure PyE {α : Type} (e : α → Dat) [DecidableEq α] where
  ok : α → Bool
  py : α → PyData
  dep : Nat
  to : ∀ a, toPy (e a) = some (py a)
  lay : ∀ a, ok a = true → (py a).canLay0 = true
  dp : ∀ a, (py a).depth ≤ dep
  eqv : ∀ a b, PyData.eqv (py a) (py b) = decide (a = b)
def pyI : PyE Dat.int := ⟨fun _ => true, .int, 0, fun a => by simp [toPy], fun _ _ => by simp [PyData.canLay0], fun _ => by simp [PyData.depth], fun a b => by simp only [PyData.eqv]; rw [Bool.eq_iff_iff]; simp⟩
def pyS : PyE Dat.str := ⟨fun z => z.cps.all (· < 0x110000), .str, 0, fun a => by simp [toPy], fun a h => by simpa [PyData.canLay0, PyData.strOk] using h, fun _ => by simp [PyData.depth], fun a b => by simp only [PyData.eqv]; rw [Bool.eq_iff_iff]; simp⟩
section
variable {α β γ : Type} {e : α → Dat} {f : β → Dat} {g : γ → Dat} [DecidableEq α] [DecidableEq β] [DecidableEq γ]
theorem toPyL_map (p : PyE e) : ∀ xs : List α, toPyL (xs.map e) = some (xs.map p.py)
  | [] => by simp [toPyL]
  | x :: xs => by simp [toPyL, p.to x, toPyL_map p xs]
theorem layL (p : PyE e) : ∀ xs : List α, xs.all p.ok = true → PyData.canLayAll0 (xs.map p.py) = true
  | [], _ => by simp [PyData.canLayAll0]
  | x :: xs, h => by
    rw [List.all_cons, Bool.and_eq_true] at h
    simp only [List.map_cons, PyData.canLayAll0, Bool.and_eq_true]
    exact ⟨p.lay x h.1, layL p xs h.2⟩
theorem depL (p : PyE e) : ∀ xs : List α, PyData.depthAll (xs.map p.py) ≤ p.dep
  | [] => by simp [PyData.depthAll]
  | x :: xs => by
    simp only [List.map_cons, PyData.depthAll]
    exact Nat.max_le.mpr ⟨p.dp x, depL p xs⟩
theorem eqvL (p : PyE e) : ∀ xs ys : List α, PyData.eqvAll (xs.map p.py) (ys.map p.py) = decide (xs = ys)
  | [], [] => by simp [PyData.eqvAll]
  | [], _ :: _ => by simp [PyData.eqvAll]
  | _ :: _, [] => by simp [PyData.eqvAll]
  | x :: xs, y :: ys => by
    simp only [List.map_cons, PyData.eqvAll, p.eqv, eqvL p xs ys]
    rw [Bool.eq_iff_iff]; simp
def pyL (p : PyE e) : PyE (lstD e) := ⟨fun xs => xs.all p.ok, fun xs => .list (xs.map p.py), p.dep + 1, fun xs => by simp [toPy, toPyL_map p], fun xs h => by simp only [PyData.canLay0]; exact layL p xs h, fun xs => by
  simp only [PyData.depth]; have := depL p xs; omega, fun xs ys => by simp only [PyData.eqv]; exact eqvL p xs ys⟩
def py2 (p : PyE e) (q : PyE f) : PyE (pairD e f) := ⟨fun x => p.ok x.1 && q.ok x.2, fun x => .tuple [p.py x.1, q.py x.2], max p.dep q.dep + 1, fun x => by simp [toPy, toPyL, p.to, q.to], fun x h => by
  rw [Bool.and_eq_true] at h; simp only [PyData.canLay0, PyData.canLayAll0, Bool.and_eq_true]; exact ⟨p.lay _ h.1, q.lay _ h.2, trivial⟩, fun x => by
  simp only [PyData.depth, PyData.depthAll]; have := p.dp x.1; have := q.dp x.2; omega, fun x y => by
  obtain ⟨a, b⟩ := x; obtain ⟨c, d⟩ := y; simp only [PyData.eqv, PyData.eqvAll, p.eqv, q.eqv]; rw [Bool.eq_iff_iff]; simp⟩
/-- None, or data that is no None -/
def pyO (p : PyE e) (hn : ∀ a, PyData.eqv (p.py a) .none = false ∧ PyData.eqv .none (p.py a) = false) : PyE (optD e) := ⟨fun x => match x with | none => true | some a => p.ok a, fun x => match x with | none => .none | some a => p.py a, p.dep,
  fun x => by cases x <;> simp [optD, toPy, p.to], fun x h => by cases x with | none => simp [PyData.canLay0] | some a => exact p.lay a h, fun x => by cases x with | none => simp [PyData.depth] | some a => exact p.dp a, fun x y => by
  cases x with
  | none => cases y with
    | none => simp [PyData.eqv]
    | some b => show PyData.eqv .none (p.py b) = _; rw [(hn b).2]; simp
  | some a => cases y with
    | none => show PyData.eqv (p.py a) .none = _; rw [(hn a).1]; simp
    | some b => show PyData.eqv (p.py a) (p.py b) = _; rw [p.eqv]; simp⟩
end
section
variable {X : Cx} {T : Bool} {τ : TEnv} {M A B : Mem} {P : PK'} {E : XKx} {a b c o e : Expr} {es : List Expr} {pos p apos tpos : Pos} {α β : Type} {E1 : Er → Prop} {q : Addr}
theorem PyE.shaped {α : Type} {e : α → Dat} [DecidableEq α] (p : PyE e) {a : α} (hd : p.dep ≤ 64) (h : p.ok a = true) : SeqAt.shaped (p.py a) = true := by
  unfold SeqAt.shaped
  rw [Bool.and_eq_true]
  exact ⟨p.lay a h, decide_eq_true (Nat.le_trans (p.dp a) hd)⟩
/-- whether two such data are equal; their texts must be texts -/
def peq {α : Type} [DecidableEq α] (ok : α → Bool) (a b : α) : Res Bool := guard (ok a = true ∧ ok b = true) (decide (a = b))
theorem r_eqD {α : Type} {e : α → Dat} [DecidableEq α] (p : PyE e) (a b : α) (hu : X.A.units + 64 < cLine) {Q : Bool → Prop} (h : (peq p.ok a b).Out Q E1) (hk : ∀ z, Q z → P (.bl z) M) (hd : p.dep ≤ 64 := by decide) : OP X T (compareOp .Eq) (e a) (e b) M P :=
  o_eqD (p.to a) (p.to b) (p.shaped hd (gd h).1.1) (p.shaped hd (gd h).1.2) hu (by rw [p.eqv]; exact hk _ (gd h).2)
theorem r_neD {α : Type} {e : α → Dat} [DecidableEq α] (p : PyE e) (a b : α) (hu : X.A.units + 64 < cLine) {Q : Bool → Prop} (h : (peq p.ok a b).Out Q E1) (hk : ∀ z, Q z → P (.bl (!z)) M) (hd : p.dep ≤ 64 := by decide) : OP X T (compareOp .NotEq) (e a) (e b) M P :=
  o_neD (p.to a) (p.to b) (p.shaped hd (gd h).1.1) (p.shaped hd (gd h).1.2) hu (by rw [p.eqv]; exact hk _ (gd h).2)
theorem o_notNT {α : Type} (e : α → Dat) (hn : ∀ a, (e a).isN = false ∧ ∀ u, e a ≠ .raw u) {x : Option α} (h : P (.bl (!x.isNone)) M) : OP X T (compareOp .IsNot) (optD e x) .non M P := by
  cases x with
  | none => exact o_notN (fun u => by simp [optD]) h
  | some a => exact o_notN (fun u => (hn a).2 u) (by show P (.bl (!(e a).isN)) M; rw [(hn a).1]; exact h)
theorem cifN {c : Bool} {A B : Res α} {P : α → Prop} {E : Er → Prop} (h : (cond c A B).Out P E) {X Y : Prop} (a : A.Out P E → X) (b : B.Out P E → Y) : ((!c) = true → Y) ∧ ((!c) = false → X) := by
  cases c with
  | true => exact ⟨(fun z => nomatch z), fun _ => a h⟩
  | false => exact ⟨fun _ => b h, fun z => nomatch z⟩
/-! walks -/
variable {iter tg : Expr} {PI' : List Dat → Mem → (Mem → Prop) → Prop}
theorem ei_rng1 (hm : X.mg "range" = none) (h : EX X false a τ M (fun d M1 => ∃ j, d = .int j ∧ small62 j ∧ PI' ((rangeL 0 j.toNat).map Dat.int) M1 anyM) E) (hg : Gl X "range" := by rfl) (hs : starEach [a] X.env = [(false, eval a X.env)] := by rfl) : EI X tg (.Call (.Name "range" p) [a] [] pos) τ M PI' E :=
  ei_range1 hm (h.imp (fun d M1 ⟨j, e, hj, hp⟩ => ⟨j, e, hj, by rw [rngD_map]; exact hp⟩) fun _ _ x => x) hg hs
theorem ei_rng2 (hm : X.mg "range" = none) (h : EX X false a τ M (fun d M1 => EX X false b τ M1 (fun d2 M2 => ∃ i j, d = .int i ∧ d2 = .int j ∧ (small62 i ∧ small62 j) ∧ PI' ((rangeL i (j - i).toNat).map Dat.int) M2 anyM) E) E) (hg : Gl X "range" := by rfl)
    (hs : starEach [a, b] X.env = [(false, eval a X.env), (false, eval b X.env)] := by rfl) (hs2 : starEach [b] X.env = [(false, eval b X.env)] := by rfl) : EI X tg (.Call (.Name "range" p) [a, b] [] pos) τ M PI' E :=
  ei_range2 hm (h.imp (fun d M1 h1 => h1.imp (fun d2 M2 ⟨i, j, e1, e2, ⟨h1, h2⟩, hp⟩ => ⟨i, j, e1, e2, ⟨h1.1, h1.2, h2.1, h2.2⟩, by rw [rngD_map]; exact hp⟩) fun _ _ x => x) fun _ _ x => x) hg hs hs2
/-- a range upwards by a step -/
def rng3ok (i j c : Int) : Prop := (small62 i ∧ small62 j) ∧ 0 < c ∧ c < 1073741824
instance {i j c : Int} : Decidable (rng3ok i j c) := inferInstanceAs (Decidable (_ ∧ _))
theorem ei_enumT (f : α → Dat) {elts : List Expr} {kk : Nat} {tpos : Pos} (hm : X.mg "enumerate" = none) (h : EX X false e τ M (fun d M1 => ∃ xs : List α, d = lstD f xs ∧ PI' ((enumL xs).map (pairD Dat.int f)) M1 anyM) E) (hg : Gl X "enumerate" := by rfl) (hs : starEach [e] X.env = [(false, eval e X.env)] := by rfl) :
    EI X (.Tuple elts kk tpos) (.Call (.Name "enumerate" p) [e] [] pos) τ M PI' E :=
  ei_enum hm (h.imp (fun d M1 ⟨xs, e, hp⟩ => ⟨xs.map f, e, by rw [enuD_map]; exact hp⟩) fun _ _ x => x) hg hs
/-! cells -/
/-- what o[i] = d wants -/
def SetQ (K : PySem.W.Frag) (od id d : Dat) (M : Mem) (Pm : Mem → Prop) : Prop := ∃ q ds k j, od = .raw (.ref q) ∧ id = .int k ∧ (q, MC.lst ds) ∈ M ∧ ixN ds.length k = some j ∧ ∀ G H, Hst K G M H → Pm (putC q (.lst (ds.set j d)) M)
theorem r_set (A : Mem) (f : α → Dat) {xs : List α} {x : α} {k : Int} {Q : List α → Prop} {Pm : Mem → Prop} (h : (pset xs k x).Out Q E1) (hk : ∀ z, Q z → Pm (A ++ (q, .lst (z.map f)) :: B)) :
    SetQ X.K (.raw (.ref q)) (.int k) (f x) (A ++ (q, .lst (xs.map f)) :: B) Pm := by
  unfold pset at h
  cases e : ixN xs.length k with
  | none => rw [e] at h; exact h.elim
  | some j =>
    rw [e] at h
    refine ⟨q, xs.map f, k, j, rfl, rfl, List.mem_append_right _ List.mem_cons_self, by rw [List.length_map]; exact e, fun G H hH => ?_⟩
    have nd := hH.nd
    have : putC q (.lst ((xs.map f).set j (f x))) (A ++ (q, .lst (xs.map f)) :: B) = A ++ (q, .lst ((xs.set j x).map f)) :: B := by
      rw [← List.map_set]
      rw [adr_append] at nd
      have hA : ∀ c ∈ A, c.1 ≠ q := fun c hc e => by
        have h1 : q ∈ adr A := List.mem_flatMap.mpr ⟨c, hc, by obtain ⟨p, c⟩ := c; simp only at e; subst e; cases c <;> simp [adr1]⟩
        exact (List.nodup_append.mp nd).2.2 q h1 q (by simp [adr, adr1]) rfl
      clear hH nd h hk
      induction A with
      | nil => simp [putC]
      | cons c A ih =>
        obtain ⟨p, c⟩ := c
        have : p ≠ q := hA _ List.mem_cons_self
        simp only [List.cons_append, putC, if_neg this]
        rw [ih fun c hc => hA c (List.mem_cons_of_mem _ hc)]
    rw [this]
    exact hk _ h
/-- o[i] = v, the cells as they are told by r_set -/
theorem gx_subT {i : Expr} {d : Dat} {Pt : TEnv → Mem → Prop} (h : EX X false o τ M (fun od M1 => EX X false i τ M1 (fun id M2 => SetQ X.K od id d M2 (fun M3 => Pt τ M3)) E) E)
    (ha : ∀ v, assign (.Subscript o i pos) X.env v = (do
      let ov ← holding [v] (eval o X.env)
      let iv ← holding [v, ov] (eval i X.env)
      standAt pos
      holding [v, ov, iv] (setItem ov iv v)
      release [v, ov, iv] []) := by intro _; rfl) : GX X T (.Subscript o i pos) d τ M Pt E := .mk fun W tk σ G H v hE hH dv Q hP hX => by
  refine tWG_of (pg_sub (pe_W (e := o)) (pe_W (e := i)) set_list ha) ?_
  refine h.run W tk σ G H hE hH _ ?_ hX
  intro od M1 ov G1 H1 hi s1 h1 dov
  refine hi.run W tk σ G1 H1 (hE.up s1.gg) h1 _ ?_ (hX.step s1)
  rintro id M2 iv G2 H2 ⟨q, ds, k, j, rfl, rfl, hm, hj, hp⟩ s2 h2 div
  obtain ⟨xs, g, dx⟩ := h2.mem _ hm
  obtain ⟨s3, h3⟩ := put_ok (c' := .lst (ds.set j d)) (H2 := upd H2 q (.lst (xs.set j v))) h2 hm rfl (fun b hb => upd_ne hb) ⟨_, upd_same, dx.set (dv.up (s1.trans s2).gg) j⟩
  exact ⟨q, xs, k, j, (dov.up s2.gg).raw_inv, div.int_inv, g, by rw [dx.length]; exact hj, hP _ _ _ _ _ (hp _ _ h2) ((s1.trans s2).trans s3) h3 ((hE.up (s1.trans s2).gg).up s3.gg)⟩
/-! calls with a cell, of defs that give a new list -/
variable {k : Nat} {f : Addr} {fd : FuncData} {ps : List Str} {S : Spc} {x qual : Str} {st : Stmt}
theorem ex_callA (F : FnD X.prog X.w X.K X.mg X.base k f fd ps S) (hr : Room k X.A) (hm : X.mg x = some (.ref f)) (FF : Fun X.K x qual st f fd) (hb : Binds X.K fd ps [])
    (h : EA X T (e :: es) τ M (fun ds M1 => AP S ds M1 P E) E) (hg : Gl X x := by rfl) (hdb : (x == ("__debug__" : Str)) = false := by decide) (he : starEach (e :: es) X.env = (false, eval e X.env) :: starEach es X.env := by rfl) (hpl : (backTo pos (starEach es X.env)).any (·.1) = false := by rfl) :
    EX X T (.Call (.Name x p) (e :: es) [] pos) τ M P E := ex_call (df := []) (dvs := []) F hr hm FF.kp hb .nil (fun _ => .nil) (.mk fun W tk σ G H hE hH Q hP hX => h.run W tk σ G H hE hH Q (fun ds M2 vs G2 H2 hs => hP ds M2 vs G2 H2 (by show AP S (ds ++ []) M2 P E; rw [List.append_nil]; exact hs)) hX) hg hdb he hpl
/-- the cell behind A is handed to the def -/
def UpC {δ : Type} (A B : Mem) (P : δ → Mem → Prop) (d : δ) (Mc : Mem) : Prop := ∃ M2, (Mc ++ (A ++ B)).Perm M2 ∧ P d M2
theorem apC {ds : List Dat} (A : Mem) {c : MC} (h : S ds [(q, c)] (UpC A B P) (UpC A B E)) : AP S ds (A ++ (q, c) :: B) P E := ⟨_, _, List.perm_middle, h⟩
theorem outC1 {m : Res (α × List β)} {ff : α → Dat} {g : β → Dat} {Q : α × List β → Prop} (h : m.Out Q E1) (hk : ∀ r, Q r → P (ff r.1) (A ++ (q, .lst (r.2.map g)) :: B)) (hx : ∀ x, E1 x → False) :
    m.Out (fun r => UpC A B P (ff r.1) [(q, .lst (r.2.map g))]) (fun _ => False) :=
  out_mono h (fun r z => ⟨_, (List.perm_middle (l₁ := A)).symm, hk r z⟩) hx
theorem finO {σ ρ β : Type} {k : σ → Res β} {r : ρ → Res β} {s : σ} {P : β → Prop} {E : Er → Prop} (h : (Ctl.fin k r (.nx s)).Out P E) : (k s).Out P E := h
end
end Kh

set_option Elab.async false
set_option linter.all false
set_option maxRecDepth 100000
set_option maxHeartbeats 1000000
namespace Kh
open PySem PySem.Spec L2
open PyProof.Rows (Compare_chain isTrue_chain chain_link chain_last test_link test_last)
/-! ### a op b op' c .. -/
structure TCh (X : Cx) (T : Bool) (pos : Pos) (ops : List CmpOp) (es : List Expr) (x : Dat) (τ : TEnv) (M : Mem) (P : Bool → Mem → Prop) (E : XKx) : Prop where
  run : ∀ W, Takes X W → ∀ σ G H v, DenE X.K τ G σ → Hst X.K G M H → Den X.K G x v → ∀ Q, CT' X.K G M H P Q → CX' X.K G M H E (fun c d H2 => W c d σ H2) →
    ∀ pins s u, Tk T s → Inv X pins σ H s → RelV v u → wpAny (model X.prog X.w) X.A (testChain pos u ops (evalEach es X.env)) (TP X pins σ Q) X.xe s
section
variable {X : Cx} {T : Bool} {τ : TEnv} {M : Mem} {P : PK'} {E : XKx} {a r r' : Expr} {rs : List Expr} {op op' : CmpOp} {ops : List CmpOp} {pos : Pos} {x : Dat} {Pb : Bool → Mem → Prop}
theorem et_chain (h : EX X T a τ M (fun x M1 => TCh X T pos (op :: op' :: ops) (r :: r' :: rs) x τ M1 Pb E) E) (hm : lastMarks (op :: op' :: ops) (r :: r' :: rs) = false := by with_unfolding_all rfl) :
    ET X T (.Compare a (op :: op' :: ops) (r :: r' :: rs) pos) τ M Pb E := .mk fun W tk σ G H hE hH Q hP hX pins s k I => by
  have hA := h.run W tk σ G H hE hH (fun v H1 => ∀ pins s u, Tk T s → Inv X pins σ H1 s → RelV v u → wpAny (model X.prog X.w) X.A (testChain pos u (op :: op' :: ops) (evalEach (r :: r' :: rs) X.env)) (TP X pins σ Q) X.xe s)
    (fun d M1 v G1 H1 hc s1 h1 dv => hc.run W tk σ G1 H1 v (hE.up s1.gg) h1 dv Q (hP.step s1) (hX.step s1)) hX
  exact isTrue_chain (thnT k (hA pins s k I) fun u s1 k1 ⟨v, H1, I1, r1, q⟩ => q pins s1 u k1 I1 r1) hm
theorem tch_link (h : EX X T r τ M (fun y M1 => OP X T (compareOp op) x y M1 (fun d M2 => ∃ k, d = .bl k ∧ ((k = true → TCh X T pos (op' :: ops) (r' :: rs) y τ M2 Pb E) ∧ (k = false → Pb false M2)))) E) : TCh X T pos (op :: op' :: ops) (r :: r' :: rs) x τ M Pb E := .mk fun W tk σ G H v hE hH dx Q hP hX pins s u k I rx => by
  have hA := h.run W tk σ G H hE hH (fun y H1 => rW X T (compareOp op) v y H1 (fun z H3 => ∃ b, z = .bl b ∧ if b = true then (∀ pins s u2, Tk T s → Inv X pins σ H3 s → RelV y u2 → wpAny (model X.prog X.w) X.A (testChain pos u2 (op' :: ops) (evalEach (r' :: rs) X.env)) (TP X pins σ Q) X.xe s) else Q false H3))
    (fun d M1 y G1 H1 ho s1 h1 dy => ho G1 H1 v y h1 (dx.up s1.gg) dy _ (fun d M2 z G2 H2 ⟨b, eb, h2, h3⟩ s2 hs2 dz => by
      subst eb
      refine ⟨b, dz.bl_inv, ?_⟩
      cases b with
      | true => exact iteT ((h2 rfl).run W tk σ G2 H2 y (hE.up (s1.trans s2).gg) hs2 (dy.up s2.gg) Q (hP.step (s1.trans s2)) (hX.step (s1.trans s2)))
      | false => exact iteF (hP _ _ _ _ (h3 rfl) (s1.trans s2) hs2))) hX
  refine test_link (thnT k (hA pins s k I) fun u2 s1 k1 ⟨y, H1, I1, r1, q⟩ => thnT k1 (q pins s1 σ u u2 k1 I1 rx r1) fun cv s2 k2 ⟨z, H2, I2, r2, b, eb, q2⟩ => ?_)
  subst eb
  cases r2
  refine wpAny_truthy_bool ?_
  cases b with
  | true => exact iteT (q2 pins s2 u2 k2 I2 r1)
  | false => exact iteF ⟨H2, I2, q2⟩
theorem tch_last (h : EX X T r τ M (fun y M1 => OP X T (compareOp op) x y M1 (fun d M2 => ∃ k, d = .bl k ∧ Pb k M2)) E) : TCh X T pos [op] [r] x τ M Pb E := .mk fun W tk σ G H v hE hH dx Q hP hX pins s u k I rx => by
  have hA := h.run W tk σ G H hE hH (fun y H1 => rW X T (compareOp op) v y H1 (fun z H3 => ∃ b, z = .bl b ∧ Q b H3))
    (fun d M1 y G1 H1 ho s1 h1 dy => ho G1 H1 v y h1 (dx.up s1.gg) dy _ (fun d M2 z G2 H2 ⟨b, eb, h2⟩ s2 hs2 dz => by
      subst eb
      exact ⟨b, dz.bl_inv, hP _ _ _ _ h2 (s1.trans s2) hs2⟩)) hX
  refine test_last (thnT k (hA pins s k I) fun u2 s1 k1 ⟨y, H1, I1, r1, q⟩ => thn (q pins s1 σ u u2 k1 I1 rx r1) fun cv s2 ⟨z, H2, I2, r2, b, eb, q2⟩ => ?_)
  subst eb
  cases r2
  exact wpAny_truthy_bool ⟨H2, I2, q2⟩
end
end Kh

set_option Elab.async false
set_option linter.all false
set_option maxRecDepth 100000
set_option maxHeartbeats 1000000
namespace Kh
open PySem PySem.Spec L2
/-! ### enumerate(a text) -/
section
variable {prog : Program} {w : World} {A : Around} {E : Value → Shared → Prop} {s : Shared}
end
section
variable {X : Cx} {T : Bool} {τ : TEnv} {M A B : Mem} {P : PK'} {E : XKx} {e a b c o : Expr} {es : List Expr} {pos p apos tpos : Pos} {α β σ ρ : Type} {E1 : Er → Prop} {q : Addr} {ss : List Stmt} {R : RK} {PI' : List Dat → Mem → (Mem → Prop) → Prop} {tg : Expr}
/-! ### a list cell that is changed no more, under one name -/
theorem ws_frz {ds : List Dat} {M3 : Mem} (i : Nat) (ht : τ[i]? = some (some (.raw (.ref q)))) (pm : M.Perm ((q, .lst ds) :: M3)) (h : WS X T ss (τ.set i (some (.lst ds))) M3 R) : WS X T ss τ M R := .mk fun W tk σ G H hE hH D hR => by
  obtain ⟨G', s3, h3, d3⟩ := freezeL (hH.perm pm)
  have sA : Stp G M H G' M3 H := (Stp.refl.perm (List.Perm.refl _) pm).trans s3
  refine h.run W tk σ G' H (fun j d hj => ?_) h3 D (hR.step sA)
  by_cases c : i = j
  · subst c
    have hl : i < τ.length := (List.getElem?_eq_some_iff.mp ht).1
    rw [List.getElem?_set_self hl] at hj
    cases hj
    obtain ⟨v, e1, e2⟩ := hE i _ ht
    rw [e2.raw_inv] at e1
    exact ⟨_, e1, d3⟩
  · rw [List.getElem?_set_ne c] at hj
    obtain ⟨v, e1, e2⟩ := hE j d hj
    exact ⟨v, e1, e2.up sA.gg⟩
/-! ### texts -/
def preplS (x y z : Str) : Res Str := guard (x.length + (x.length + 1) * z.length ≤ 16777216) (Txt.replace x y z)
theorem ex_repl {y z : Str} {j k : Nat} {c0 c1 : Pos} (h : EX X true o τ M (fun d M1 => ∃ x Q E1, d = .str x ∧ (preplS x y z).Out Q E1 ∧ ∀ r, Q r → P (.str r) M1) E) (hyz : (y == z) = false := by decide)
    (hst : starEach [.Constant (.str y) j c0, .Constant (.str z) k c1] X.env = [(false, eval (.Constant (.str y) j c0) X.env), (false, eval (.Constant (.str z) k c1) X.env)] := by rfl)
    (hbase : attributeBase o "replace" X.env (eval o X.env) = eval o X.env := by rfl) (hline : (apos.endLine == pos.line) = true := by rfl) :
    EX X true (.Call (.Attribute o "replace" apos) [.Constant (.str y) j c0, .Constant (.str z) k c1] [] pos) τ M P E := .mk fun W tk σ G H hE hH Q hP hX pins s kt I => by
  have hO := h.run W tk σ G H hE hH (fun v H1 => ∃ x, v = .str x ∧ x.length + (x.length + 1) * z.length ≤ 16777216 ∧ Q (.str (Txt.replace x y z)) H1) (fun d M1 v G1 H1 ⟨x, Q', E1, ed, hg, hk⟩ s1 h1 dv => by
    subst ed
    exact ⟨x, dv.str_inv, (gd hg).1, hP _ _ _ _ _ (hk _ (gd hg).2) s1 h1 den_str⟩) hX
  exact CwR.pet_replT (to := tW X true o) (fun pins s σ H Q h0 I h => h pins s (fun _ => h0) I) hyz hst hbase hline pins s σ H Q (kt rfl) I hO
def pjoin (a : Str) (ys : List Str) : Res Str := guard ((ys.map (·.length)).sum + ys.length * a.length ≤ 16777216) (Txt.join a ys)
theorem r_join {a : Str} {xs : List Dat} (ys : List Str) (he : xs = ys.map Dat.str) {Q : Str → Prop} (h : (pjoin a ys).Out Q E1) (hk : ∀ r, Q r → P (.str r) M) : BMr X "str.join" (.str a) [.lst xs] M P :=
  ⟨_, mt_join, fun G H v vs hH dv dvs Q' hP => by
    subst he
    obtain ⟨u, rfl, d2⟩ := one_inv dvs
    obtain ⟨p, ws, rfl, g, dl⟩ := d2.lst_inv
    have ew := DenL.strs dl
    subst ew
    exact ⟨a, p, ys, dv.str_inv, rfl, .inl (SqL.of (hH.sub _ _ g)), (gd h).1, hP _ _ _ _ _ (hk _ (gd h).2) Stp.refl hH den_str⟩⟩
theorem r_joinS {a : Str} {xs : List Str} {Q : Str → Prop} (h : (pjoin a xs).Out Q E1) (hk : ∀ r, Q r → P (.str r) M) : BMr X "str.join" (.str a) [lstD Dat.str xs] M P := r_join xs rfl h hk
theorem r_joinC {a : Str} {xs : List Nat} {Q : Str → Prop} (h : (pjoin a (xs.map chS)).Out Q E1) (hk : ∀ r, Q r → P (.str r) M) : BMr X "str.join" (.str a) [lstD chD xs] M P := r_join (xs.map chS) (by rw [List.map_map]; rfl) h hk
theorem ex_join (h : EX X T o τ M (fun d M1 => TyB X.K M1 d "str" ∧ EA X T (e :: es) τ M1 (fun ds M2 => BMr X "str.join" d ds M2 P) E) E)
    (hbase : attributeBase o "join" X.env (eval o X.env) = eval o X.env := by rfl)
    (hfew : ((backTo tpos (starEach (e :: es) X.env)).all (fun x => !x.1) && (backToKw tpos (keywordEach [] X.env)).all (fun x => x.1.isSome) && decide ((e :: es).length + ([] : List Keyword).length + (if ([] : List Keyword).isEmpty then 0 else 1) < 30)) = true := by rfl)
    (hline : (apos.endLine == tpos.line) = true := by rfl) (hs : starEach (e :: es) X.env = (false, eval e X.env) :: starEach es X.env := by rfl) (hplain : (backTo tpos (starEach es X.env)).any (·.1) = false := by rfl) :
    EX X T (.Call (.Attribute o "join" apos) (e :: es) [] tpos) τ M P E := ex_bm PySem.F.plainAttrs_str PySem.F.slot_str_join PySem.F.type_str_join h hbase hfew hline hs hplain
/-! ### a list against [] -/
theorem r_eqNil {xs : List Dat} (hu : X.A.units + 64 < cLine) (h : P (.bl xs.isEmpty) M) : OP X T (compareOp .Eq) (.lst xs) (.lst []) M P := by
  cases xs with
  | nil => exact o_eqLT rfl (by decide) hu h
  | cons x xs => exact o_eqLn (by simp) hu h
theorem isE_map {f : α → Dat} {xs : List α} : (xs.map f).isEmpty = xs.isEmpty := by cases xs <;> rfl
theorem r_eqNilT (f : α → Dat) {xs : List α} (hu : X.A.units + 64 < cLine) (h : P (.bl xs.isEmpty) M) : OP X T (compareOp .Eq) (lstD f xs) (.lst []) M P := r_eqNil hu (by rw [isE_map]; exact h)
end
/-! ### methods of own classes -/
theorem FnOk.mono {P : Program} {w : World} {K : PySem.W.Frag} {mg : Str → Option Value} {base : Heap} {k : Nat} {f : Addr} {fd : FuncData} {ps : List Str} {CX : CXT} {sp sp' : Sp} (h : FnOk P w K mg base CX k f fd ps sp) (hi : ∀ vs H Q E, sp' vs H Q E → sp vs H Q E) : FnOk P w K mg base CX k f fd ps sp' :=
  ⟨fun vs H Q E q => h.len vs H Q E (hi _ _ _ _ q), fun A outer s H args us vs Q E hr e0 hb r hsp => h.run A outer s H args us vs Q E hr e0 hb r (hi _ _ _ _ hsp)⟩
theorem FnD.mono {P : Program} {w : World} {K : PySem.W.Frag} {mg : Str → Option Value} {base : Heap} {k : Nat} {f : Addr} {fd : FuncData} {ps : List Str} {S S' : Spc} (h : FnD P w K mg base k f fd ps S) (hi : ∀ ds M Pd PE, S' ds M Pd PE → S ds M Pd PE) : FnD P w K mg base k f fd ps S' :=
  FnOk.mono h fun vs H Q E ⟨G, ds, M, Pd, PE, h1, h2, h3, h4, h5⟩ => ⟨G, ds, M, Pd, PE, h1, h2, hi _ _ _ _ h3, h4, h5⟩
/-- the method m of instances of the class at C keeps S, around A -/
structure MO (P : Program) (w : World) (K : PySem.W.Frag) (mg : Str → Option Value) (base : Heap) (A : Around) (C : Addr) (m : Str) (S : Spc) : Prop where
  ex : ∃ k g fd ps, Cls K C ∧ Meth K C m g ∧ FnD P w K mg base k g fd ps S ∧ Room k A ∧ Binds K fd ps []
section
variable {X : Cx} {T : Bool} {τ : TEnv} {M : Mem} {P : PK'} {E : XKx} {e o : Expr} {es : List Expr} {pos p apos : Pos} {m : Str}
theorem ex_mv0 {pl : Sem Bool} (h : EX X T o τ M (fun d M1 => ∃ C S, MO X.prog X.w X.K X.mg X.base X.A C m S ∧ IsI C m M1 d ∧ AP S [d] M1 P E) E)
    (ht : eval (.Call (.Attribute o m apos) [] [] pos) X.env = (do let ov ← eval o X.env; standAt apos.atName; let (f, first) ← holding [ov] (getMethod ov m pl); callWith pos f first (backTo pos (starEach [] X.env)) []) := by rfl) :
    EX X T (.Call (.Attribute o m apos) [] [] pos) τ M P E := by
  refine .mk ?_; intro W tk σ G H hE hH Q hP hX pins s k0 I
  have hO := h.run W tk σ G H hE hH (fun x H1 => ∃ a C S dx fs, MO X.prog X.w X.K X.mg X.base X.A C m S ∧ x = .ref a ∧ H1 a = some (.ins C dx fs) ∧ fs.lookup m = none ∧ toSp X.K S [x] H1 Q (fun c d H3 => W c d σ H3)) (fun d M1 v G1 H1 ⟨C, S, mo, hi, ha⟩ s1 h1 dv => by
    obtain ⟨a, dx, fs, e1, e2, e3⟩ := hi.get h1 dv
    exact ⟨a, C, S, dx, fs, mo, e1, e2, e3, ap_toSp ha (.cons dv .nil) h1 (hP.step s1) (hX.step s1)⟩) hX
  refine PySem.W.methodCall_KW (pl := pl) (thnT k0 (hO pins s k0 I) fun u s1 k1 ⟨x, H1, I1, rx, a, C, S, dx, fs, mo, ex, ea, l, q⟩ => ?_) ht
  subst ex
  obtain rfl : u = Value.ref a := rx
  obtain ⟨k, g, fd, ps, c, hm, F, hr, hb⟩ := mo.ex
  refine getmeth_ok I1 ea c hm l ?_
  exact PySem.W.callWith_K0 (first := [.ref a]) I1.kIn hm.kp (run_d (us := [.ref a]) (vs := [.ref a]) (dsv := []) (dvs := []) F hr hb .nil tk I1 (.cons rfl .nil) q)
theorem mvD0 {d : Dat} {S : Spc} (h : ∃ C, MO X.prog X.w X.K X.mg X.base X.A C m S ∧ ∀ M, IsI C m M d) (ha : S [d] M (UpP P) (UpP E)) : ∃ C S, MO X.prog X.w X.K X.mg X.base X.A C m S ∧ IsI C m M d ∧ AP S [d] M P E :=
  let ⟨C, h1, h2⟩ := h
  ⟨C, S, h1, h2 M, ap_all ha⟩
/-- what becomes of an instance that is made: it is frozen at once -/
theorem made_ok {C x dx : Addr} {fs : List (Str × Dat)} (h : P (.obj C (fs.map (·.1)) (fs.map (·.2))) M) : MadeP P x ((x, .ins C dx fs) :: M) := .inr ⟨C, dx, fs, M, List.Perm.refl _, h⟩
end
end Kh

set_option Elab.async false
set_option linter.all false
set_option maxRecDepth 100000
set_option maxHeartbeats 1000000
namespace Kh
open PySem PySem.Spec L2
/-! ### own operators -/
section
variable {prog : Program} {w : World} {A : Around} {E : Value → Shared → Prop} {s : Shared} {K : PySem.W.Frag} {x C L f : Addr} {h₀ : Heap} {m : Str → Option Value} {ox : Obj} {od : Option Obj} {name : Str} {b tb : Value}
open PySem.W in
open PySem.W in
end
section
variable {X : Cx} {T : Bool} {τ : TEnv} {M : Mem} {P : PK'} {E : XKx} {a b e o : Expr} {es : List Expr} {pos p apos : Pos} {k : Nat} {fa C : Addr} {fd : FuncData} {ps : List Str} {S : Spc} {W : WX}
/-- a def's call around another place -/
theorem run_dA {A' : Around} {pins : List (Addr × Obj)} {σ : L2.St} {H : Hp} {s : Shared} {Q : VK} {us : List Value} {vs : List V} (F : FnD X.prog X.w X.K X.mg X.base k fa fd ps S) (hr : Room k A') (he : Env0 X.prog X.w X.K X.mg X.base A' X.stack s H) (hb : Binds X.K fd ps []) (tk : Takes X W)
    (I : Inv X pins σ H s) (r : Vals vs us) (h : toSp X.K S vs H Q (fun c d H2 => W c d σ H2)) : wpAny (model X.prog X.w) A' (call (.ref fa) us) (EP X pins σ Q) X.xe s := by
  have hl : (us ++ []).length = ps.length := by rw [List.append_nil, ← r.length]; exact F.len _ _ _ _ h
  have hbb := hb s us I.kIn hl
  rw [List.append_nil] at hbb
  refine wpAny_call (codeAny_mono (F.run A' X.stack s H ⟨us, []⟩ us vs Q _ hr he hbb r h) fun r s' hq => ?_)
  cases r with
  | error e => exact tk e s' (XE.of_call I (fun cls d H' h => h) hq)
  | ok fl =>
    cases fl with
    | ret u => exact I.after hq
    | next => exact False.elim hq
    | brk => exact False.elim hq
    | cont => exact False.elim hq
theorem nf_self {K : PySem.W.Frag} {C : Addr} : PySem.W.notFirst K C (.ref C) = true := by
  unfold PySem.W.notFirst; simp
/-- x == y, x != y of one class, by what its __eq__ computes -/
theorem r_eqOwn {x y : Dat} {m : Res Bool} {Q : Bool → Prop} {E1 : Er → Prop} {t : Value} (F : FnD X.prog X.w X.K X.mg X.base k fa fd ps S) (hr : Room k X.A) (mt : Meth X.K C "__eq__" fa) (hb : Binds X.K fd ps []) (hx : ∀ M, IsI C "__eq__" M x) (ty : ∀ M, TyD X.K M y t) (hn : PySem.W.notFirst X.K C t = true)
    (hS : ∀ (P' : PK') (E' : XKx), m.Out (fun r => P' (.bl r) M) (fun _ => False) → S [x, y] M P' E') (h : m.ne.Out Q E1) (hk : ∀ b, Q b → P (.bl b) M) : OP X T (compareOp .Eq) x y M P :=
  o_eqOwn F hr mt.1 mt.2 hb (hx M) (ty M) hn (hS _ _ (out_mono (ne_out (E' := fun _ => False) h) (fun r q => UpP.mk ⟨r, rfl, hk r q⟩) fun _ z => z))
/-- len(x), x with an own __len__ -/
theorem bc_w {f : Value} {ds : List Dat} (h : ∀ G H vs, Hst X.K G M H → DenL X.K G ds vs → ∀ Q, CE' X.K G M H P Q → ∀ pins s σ us, Inv X pins σ H s → Vals vs us → wpAny (model X.prog X.w) X.A (call f us) (EP X pins σ Q) X.xe s) : BC X f ds M P :=
  ⟨fun vs H Q => ∀ pins s σ us, Inv X pins σ H s → Vals vs us → wpAny (model X.prog X.w) X.A (call f us) (EP X pins σ Q) X.xe s, fun pins s σ H vs us Q I r h => h pins s σ us I r, fun G H vs hH dv Q hP pins s σ us I r => h G H vs hH dv Q hP pins s σ us I r⟩
theorem c_lenOwn {x : Dat} (F : FnD X.prog X.w X.K X.mg X.base k fa fd ps S) (hr : Room (k + 1) X.A) (hs : PySem.W.findIn X.K (.ref C) "__len__" = some (some (.ref fa))) (hf : PySem.W.isFn X.K (.ref fa) = true) (hb : Binds X.K fd ps [])
    (hx : ∀ M, IsI C "__eq__" M x) (h : S [x] M (UpP fun d M2 => ∃ i, d = .int i ∧ (0 ≤ i ∧ i < 2 ^ 63) ∧ P d M2) (UpP E0')) : BC X (.builtin "len") [x] M P := bc_w fun G H vs hH dv Q hP pins s σ us I r => by
  obtain ⟨v, rfl, dx⟩ := one_inv dv
  obtain ⟨a, dxa, fs, rfl, ea, _⟩ := (hx M).get hH dx
  cases r with
  | cons r1 rr =>
    cases rr
    obtain rfl := r1
    obtain ⟨mA, J, _⟩ := ins_get I.hok ea
    obtain ⟨od, J, _⟩ := J.look
    obtain ⟨m, hF⟩ := I.fr
    have hsp : toSp X.K S [.ref a] H (fun z H' => ∃ i, z = .int i ∧ (0 ≤ i ∧ i < 2 ^ 63) ∧ Q (.int i) H') (fun _ _ _ => False) :=
      ap_toSp (ap_all h) (.cons dx .nil) hH (fun d M2 z G2 H2 ⟨i, ed, hi, hp⟩ s2 h2 dz => by subst ed; exact ⟨i, dz.int_inv, hi, hP _ _ _ _ _ hp s2 h2 den_int⟩) noX
    refine PySem.W.len_K hF I.ok.mod.kin J hs hf ?_
    refine wpAny_mono (run_dA (W := fun _ _ _ _ => False) (us := [.ref a]) (vs := [.ref a]) F hr.in1 I.env0.in1 hb takes0 I (.cons rfl .nil) hsp) (fun r s' q => ?_) fun _ _ z => z
    obtain ⟨z, H', I', rz, i, ez, hi, q⟩ := q
    subst ez
    obtain ⟨t, rfl⟩ := rz
    exact ⟨hi, .int i, H', I'.tok _, ⟨_, rfl⟩, q⟩
def plenO (m : Res Int) : Res Int := m.ne.bind fun i => guard (0 ≤ i ∧ i < 2 ^ 63) i
theorem lenO {Q : Int → Prop} {E1 : Er → Prop} {ex : Er → Exn} : ∀ {m : Res Int} (h : (plenO m).Out Q E1) (hk : ∀ i, Q i → P (.int i) M),
    m.Out (fun r => UpP (fun (d : Dat) (M2 : Mem) => ∃ i, d = Dat.int i ∧ (0 ≤ i ∧ i < 2 ^ 63) ∧ P d M2) (Dat.int r) M) (fun x => UpP E0' (ex x) M)
  | .ok i, h, hk => by
    have h2 := gd h
    exact UpP.mk (P := fun (d : Dat) (M2 : Mem) => ∃ i, d = Dat.int i ∧ (0 ≤ i ∧ i < 2 ^ 63) ∧ P d M2) ⟨i, rfl, h2.1, hk _ h2.2⟩
  | .err _, h, _ => h.elim
  | .bad, h, _ => h.elim
  | .all f, h, hk => fun q => lenO (m := f q) (h q) hk
end
/-! ### a comprehension that changes cells -/
section
variable {X : Cx} {T : Bool} {τ : TEnv} {M : Mem} {P : PK'} {E : XKx} {t e iter tg : Expr} {pos : Pos} {α β σ ρ : Type} {E1 : Er → Prop}
theorem compST {xs : List α} (f : α → Dat) (f2 : β → Dat) {g : σ → α → Res (Option β × σ)} {s0 : σ} (Mf : σ → Mem) {Ok : Mem → Prop} {vs : List Nat} {scope : Scope} {ifs : List Expr} {elt : Expr} {Q : List β × σ → Prop} (h : (compS g xs s0).Out Q E1) (hOk : ∀ s, Ok (Mf s))
    (step : ∀ x s0 (N : Option β × σ → Prop), (g s0 x).Out N (fun _ => False) → ∀ (s : Shared) (H : Hp) (C : Addr) (cl : List (Str × Addr)) (fp : List Addr), GC (Cx.Bk X scope s H C cl fp) vs tg (f x) (wipeT τ vs) (Mf s0) (fun τ2 M2 => ∀ (s : Shared) (H : Hp) (C : Addr) (cl : List (Str × Addr)) (fp : List Addr),
        EFs (Cx.Bk X scope s H C cl fp) ifs τ2 M2 (fun b M3 => (b = true → ∀ (s : Shared) (H : Hp) (C : Addr) (cl : List (Str × Addr)) (fp : List Addr), EX (Cx.Bk X scope s H C cl fp) false elt τ2 M3 (fun y M4 => ∃ v s2, M4 = Mf s2 ∧ y = f2 v ∧ N (some v, s2)) E0') ∧ (b = false → ∃ s2, M3 = Mf s2 ∧ N (none, s2)))))
    (fin : ∀ r, Q r → P (lstD f2 r.1) (Mf r.2)) :
    LcQ X scope vs tg ifs elt τ (xs.map f) (Mf s0) Ok P := by
  unfold compS at h
  split at h
  case isFalse => exact h.elim
  rename_i hl
  have h : (compSL g xs s0).Out Q (fun _ => False) := ne_out h
  refine ⟨by rw [List.length_map]; exact hl, fun i acc M => ∃ s, M = Mf s ∧ ∃ ys : List β, acc = ys.map f2 ∧ (compSL g (xs.drop i) s).Out (fun r => Q (ys ++ r.1, r.2)) (fun _ => False), ⟨s0, rfl, [], rfl, h⟩, fun i acc M ⟨s, e, _⟩ => by rw [e]; exact hOk s, ?_, ?_⟩
  · rintro i d acc M hd ⟨s0, rfl, ys, rfl, h2⟩ s H C cl fp
    rw [List.getElem?_map] at hd
    obtain ⟨x, hx, rfl⟩ := Option.map_eq_some_iff.mp hd
    obtain ⟨hi, rfl⟩ := List.getElem?_eq_some_iff.mp hx
    rw [List.drop_eq_getElem_cons hi] at h2
    refine GC.impP (fun τ2 M2 hw => ?_) (step _ s0 _ (ob h2) s H C cl fp)
    intro s H C cl fp σ G H' hE hH Q' hQ
    refine hw s H C cl fp σ G H' hE hH Q' fun b M3 G3 H3 ⟨p1, p2⟩ s3 h3 => hQ b M3 G3 H3 ⟨fun eb s H C cl fp => ?_, fun eb => ?_⟩ s3 h3
    · refine (p1 eb s H C cl fp).imp (fun y M4 ⟨v, s2, e4, ev, hv⟩ => ?_) fun _ _ x => x
      subst ev
      refine ⟨s2, e4, ys ++ [v], by simp, ?_⟩
      have hv := ob hv
      refine out_mono hv (fun r q => ?_) fun _ z => z
      have : Q (ys ++ ((some v).toList ++ r.1), r.2) := q
      simpa using this
    · obtain ⟨s2, e3, hv⟩ := p2 eb
      refine ⟨s2, e3, ys, rfl, ?_⟩
      exact out_mono (ob hv) (fun r q => by have : Q (ys ++ ((none : Option β).toList ++ r.1), r.2) := q; simpa using this) fun _ z => z
  · rintro acc M ⟨s, rfl, ys, rfl, h2⟩
    rw [List.length_map, List.drop_length] at h2
    have : Q (ys ++ [], s) := h2
    rw [List.append_nil] at this
    exact fin (ys, s) this
end
end Kh

set_option Elab.async false
set_option linter.all false
set_option maxRecDepth 100000
set_option maxHeartbeats 4000000
namespace Kh
open PySem PySem.Spec L2
/-! ### text[::-1] -/
section
variable {X : Cx} {T : Bool} {τ : TEnv} {M : Mem} {P : PK'} {E : XKx} {e : Expr} {pos p1 p2 p3 : Pos} {kk : Nat}
open PyProof.Rows in
end
/-! ### a property by an instance's class -/
end Kh

set_option Elab.async false
set_option linter.all false
set_option maxRecDepth 100000
set_option maxHeartbeats 1000000
namespace Kh
open PySem PySem.Spec L2
/-! ### for x in an instance whose __iter__ gives iter(a text of its own) -/
end Kh

set_option Elab.async false
set_option linter.all false
set_option maxRecDepth 100000
set_option maxHeartbeats 1000000
namespace Kh
open PySem PySem.Spec L2
/-! ### list(a text) -/
end Kh

set_option Elab.async false
set_option linter.all false
set_option maxRecDepth 100000
set_option maxHeartbeats 4000000
namespace Kh
open PySem PySem.Spec L2
open PySem.W PySem.Calls PyProof.Rows PySem.HandSPX

/-! ### several except clauses, each 'except C as n' -/
/-- a clause: class's name, class, name told, suite -/
structure Cl where
  x : Str
  np : Pos
  c : Value
  n : Str
  b₀ : Stmt
  suite : List Stmt
  pos : Pos
def Cl.hd (l : Cl) : ExceptHandler := .ExceptHandler (some (.Name l.x l.np)) (some l.n) (l.b₀ :: l.suite) l.pos
section
variable {X : Cx} {body : List Stmt} {l₀ : Cl} {ls : List Cl} {r : List (Value × Nat × (Addr → Value → Option Addr → TS))} {pos : Pos} {tb : WX → TS} {Wout : WX}
end

/-! ### over the judgement of statements -/
section
variable {X : Cx} {T : Bool} {τ : TEnv} {M : Mem} {R : RK} {rest body : List Stmt} {pos : Pos} {l₀ : Cl} {ls : List Cl}
end
end Kh

set_option Elab.async false
set_option linter.all false
set_option maxRecDepth 100000
set_option maxHeartbeats 1000000
namespace Kh
open PySem PySem.Spec L2
/-! ### an error caught -/
namespace Res
def grab {α : Type} : Res α → (Er → Res α) → Res α
  | .ok a, _ => .ok a
  | .err x, k => k x
  | .bad, _ => .bad
  | .all f, k => .all fun q => (f q).grab k
end Res
section
variable {α : Type}
@[simp] theorem grab_ok {a : α} {k : Er → Res α} : (Res.ok a).grab k = .ok a := rfl
@[simp] theorem grab_err {x : Er} {k : Er → Res α} : (Res.err x).grab k = k x := rfl
theorem grab_out {k : Er → Res α} {P : α → Prop} {E : Er → Prop} : ∀ {m : Res α}, (m.grab k).Out P E → m.Out P (fun x => (k x).Out P E)
  | .ok _, h => h
  | .err _, h => h
  | .bad, h => h
  | .all f, h => fun q => grab_out (m := f q) (h q)
end
/-! ### values of any kind compared -/
mutual
def eqA : Any → Any → Bool
  | .non, .non => true
  | .bl a, .bl b => decide (a = b)
  | .int i, .int j => decide (i = j)
  | .str s, .str t => decide (s = t)
  | .lst xs, .lst ys => eqAL xs ys
  | .tup xs, .tup ys => eqAL xs ys
  | .tag a _, .tag b _ => decide (a = b)
  | .cel a, .cel b => decide (a = b)
  | _, _ => false
def eqAL : List Any → List Any → Bool
  | [], [] => true
  | x :: xs, y :: ys => eqA x y && eqAL xs ys
  | _, _ => false
end
mutual
def dpA : Any → Nat
  | .lst xs => dpAL xs + 1
  | .tup xs => dpAL xs + 1
  | _ => 1
def dpAL : List Any → Nat
  | [] => 0
  | x :: xs => max (dpA x) (dpAL xs)
end
section
variable {cl : OK → Addr × List Str}
mutual
theorem eqA_D : ∀ {x y : Any}, eqA x y = true → eqT (anyD cl x) (anyD cl y) = true
  | .non, y, h => by cases y <;> simp [eqA] at h; simp [anyD, eqT]
  | .bl a, y, h => by cases y <;> simp [eqA] at h; simp [anyD, eqT, h]
  | .int a, y, h => by cases y <;> simp [eqA] at h; simp [anyD, eqT, h]
  | .str a, y, h => by cases y <;> simp [eqA] at h; simp [anyD, eqT, h]
  | .lst xs, y, h => by
    cases y <;> simp [eqA] at h
    simp only [anyD, eqT]; exact eqAL_D h
  | .tup xs, y, h => by
    cases y <;> simp [eqA] at h
    simp only [anyD, eqT]; exact eqAL_D h
  | .tag a _, y, h => by cases y <;> simp [eqA] at h; simp [anyD, eqT, h]
  | .cel a, y, h => by cases y <;> simp [eqA] at h; simp [anyD, eqT, h]
  | .dic, y, h => by cases y <;> simp [eqA] at h
  | .obj _ _, y, h => by cases y <;> simp [eqA] at h
theorem eqAL_D : ∀ {xs ys : List Any}, eqAL xs ys = true → eqTL (anyDL cl xs) (anyDL cl ys) = true
  | [], [], _ => by simp [anyDL, eqTL]
  | x :: xs, y :: ys, h => by
    simp only [eqAL, Bool.and_eq_true] at h
    simp only [anyDL, eqTL, Bool.and_eq_true]
    exact ⟨eqA_D h.1, eqAL_D h.2⟩
  | [], _ :: _, h => by simp [eqAL] at h
  | _ :: _, [], h => by simp [eqAL] at h
end
mutual
theorem dpA_D : ∀ {x : Any}, dpD (anyD cl x) = dpA x
  | .non => by simp [anyD, dpD, dpA]
  | .bl _ => by simp [anyD, dpD, dpA]
  | .int _ => by simp [anyD, dpD, dpA]
  | .str _ => by simp [anyD, dpD, dpA]
  | .lst xs => by simp only [anyD, dpD, dpA]; rw [dpAL_D]
  | .tup xs => by simp only [anyD, dpD, dpA]; rw [dpAL_D]
  | .dic => by simp [anyD, dpD, dpA]
  | .obj _ _ => by simp [anyD, dpD, dpA]
  | .tag _ _ => by simp [anyD, dpD, dpA]
  | .cel _ => by simp [anyD, dpD, dpA]
theorem dpAL_D : ∀ {xs : List Any}, dpDL (anyDL cl xs) = dpAL xs
  | [] => by simp [anyDL, dpDL, dpAL]
  | x :: xs => by simp only [anyDL, dpDL, dpAL]; rw [dpA_D, dpAL_D]
end
end
section
variable {X : Cx} {T : Bool} {M : Mem} {P : PK'} {E1 : Er → Prop} {cl : OK → Addr × List Str} {Q : Bool → Prop} {xs ys : List Any}
end
/-! ### what a value of any kind is -/
def AsI : Any → Res Int
  | .int i => .ok i
  | _ => .bad
def AsL : Any → Res (List Any)
  | .lst xs => .ok xs
  | _ => .bad
def AsS : Any → Res Str
  | .str s => .ok s
  | _ => .bad
section
variable {cl : OK → Addr × List Str} {E1 : Er → Prop}
end
section
variable {X : Cx} {M : Mem} {P : PK'} {E1 : Er → Prop} {cl : OK → Addr × List Str} {Q : Bool → Prop} {pr : OK → Bool} {a : Any}
end
section
variable {X : Cx} {T : Bool} {τ : TEnv} {M : Mem} {P : PK'} {E : XKx} {e : Expr} {E1 : Er → Prop} {cl : OK → Addr × List Str} {a : Any} {pos : Pos} {α : Type}
/-- a value seen as one of any kind -/
theorem ex_asA (h : EX X T e τ M (fun d M1 => ∃ d', d = d' ∧ P d' M1) E) : EX X T e τ M P E := h.imp (fun d M1 ⟨_, e, h⟩ => e ▸ h) fun _ _ h => h
end
/-! ### try, as it goes on in one way -/
section
variable {X : Cx} {T : Bool} {τ : TEnv} {M : Mem} {R : RK} {rest body : List Stmt} {pos : Pos} {l₀ : Cl} {ls : List Cl} {α : Type} {E1 : Er → Prop}
end
/-! ### isinstance to an own class -/
section
variable {X : Cx} {M : Mem} {P : PK'} {E1 : Er → Prop} {cl : OK → Addr × List Str} {Q : Bool → Prop} {su : OK → Option Bool} {a : Any} {D : Addr}
end
end Kh

set_option Elab.async false
set_option linter.all false
set_option maxRecDepth 100000
set_option maxHeartbeats 1000000
namespace Kh
open PySem PySem.Spec L2
open PySem.SeqAt (EqAt RcAt RcNeAt)
/-! ### lists that are told as data or as cells -/
def LsD (M : Mem) (d : Dat) (xs : List Dat) : Prop := d = .lst xs ∨ ∃ q, d = .raw (.ref q) ∧ (q, MC.lst xs) ∈ M
theorem LsD.cell {M : Mem} {q : Addr} {xs ys : List Dat} (e : xs = ys) (h : (q, MC.lst xs) ∈ M) : LsD M (.raw (.ref q)) ys := e ▸ .inr ⟨q, rfl, h⟩
theorem LsD.dat {M : Mem} {xs ys : List Dat} (e : xs = ys) : LsD M (.lst xs) ys := e ▸ .inl rfl
theorem LsD.get {K : PySem.W.Frag} {G H : Hp} {M : Mem} {d : Dat} {xs : List Dat} {v : V} (h : LsD M d xs) (hH : Hst K G M H) (dv : Den K G d v) : ∃ a vs, v = .ref a ∧ H a = some (.lst vs) ∧ DenL K G xs vs := by
  rcases h with rfl | ⟨q, rfl, hm⟩
  · obtain ⟨a, vs, rfl, ga, da⟩ := dv.lst_inv
    exact ⟨a, vs, rfl, hH.sub _ _ ga, da⟩
  · obtain ⟨vs, g1, g2⟩ := hH.mem _ hm
    exact ⟨q, vs, dv.raw_inv, g1, g2⟩
section
variable {X : Cx} {T : Bool} {τ : TEnv} {M : Mem} {P : PK'} {E : XKx} {R : RK} {x y : Dat} {cl : OK → Addr × List Str} {Q : Bool → Prop} {E1 : Er → Prop}
end
end Kh

set_option Elab.async false
set_option linter.all false
set_option maxRecDepth 100000
set_option maxHeartbeats 1000000
namespace Kh
open PySem PySem.Spec L2
open PyProof.Rows (boot_range)
/-! ### ranges with steps of any size -/
theorem turn_rangeL {P : Program} {w : World} {K : PySem.W.Frag} {tg : Expr} (it : Addr) (lo c : Int) (n : Nat) : Turn P w K tg (Itc lo c n) [it] it (fun i h => IsLongIter h it (lo + (i : Nat) * c) ((n : Int) - (i : Nat)) c) where
  mem := by simp
  obj := fun i h st b hb => by
    have e : b = it := by simpa using hb
    subst e
    exact ⟨_, st, fun v z => nomatch z⟩
  keep := fun i h h' st k => k it (by simp) _ st
  item := by
    intro X hP hw hK hc i pins s σ H E I hf st hg
    subst hP hw hK
    obtain ⟨f0, f1, f2, f3, f4, f5⟩ := hf it (by simp)
    have W := Walks.longrange (prog := X.prog) (w := X.w) (I.ok.hd hc) it lo c n
    refine W.item i s _ _ hg st fun v h' tk hv st' kk => ?_
    obtain ⟨t, rfl⟩ := hv
    have I1 : Inv X pins σ H { s with heap := h', toks := tk } := I.turned (fun b o hb e => kk b o (by simpa using hb) e) f0 f1 f3 f4 f5
    exact ⟨_, rfl, go_of (s := { s with heap := h', toks := tk }) (n := "longrange_iterator") st' rfl rfl (by decide) ⟨.int (lo + (i : Nat) * c), H, I1, ⟨t, rfl⟩, ⟨rfl, rfl⟩, st', fun b hb => (hf b hb).1⟩⟩
  done := by
    intro X hP hw hK hc i pins s σ H E I hf st hg
    subst hP hw hK
    obtain ⟨f0, f1, f2, f3, f4, f5⟩ := hf it (by simp)
    exact wpAny_pyNext_long_end (I.ok.hd hc) st (by have : n ≤ i := hg; omega) fun h' eb => ⟨rfl, I.turned (t' := s.toks) (fun b o hb e => eb b o hb e) f0 f1 f3 f4 f5⟩
  self := fun A i s Q E st h => wpAny_pyIter_longiter st h
/-- range(i, j, c): c above 0, of less than 8000 bits; n items -/
def RgB (i j c : Int) (n : Nat) : Prop := c ≠ 0 ∧ c.natAbs.log2 < 9000 ∧ Builtin.Range.rangeSize i j c = n
def iRng3B (ta : TA) : TI := fun σ H R => ta σ H fun vs H1 => ∃ (i j c : Int) (n : Nat), vs = [.int i, .int j, .int c] ∧ RgB i j c n ∧ R (Itc i c n) H1
section
variable {X : Cx} {tg : Expr}
theorem pi_range3B {a b c : Expr} {ta : TA} {p pos : Pos} (hg : Gl X "range") (hm : X.mg "range" = none) (ha : PA X [a, b, c] ta)
    (hs : starEach [a, b, c] X.env = (false, eval a X.env) :: starEach [b, c] X.env := by rfl) (hpl : (backTo pos (starEach [b, c] X.env)).any (·.1) = false := by rfl) :
    PI X tg (.Call (.Name "range" p) [a, b, c] [] pos) (iRng3B ta) := by
  refine ⟨fun pins s σ H R I h => ?_⟩
  refine PyProof.Rows.Call_ (ld_blt I hg hm boot_range (PyProof.Rows.callWith_type1 (thn (ha.run pos pins s σ H _ I h) fun us s1 ⟨vs, H1, I1, r1, q1⟩ => ?_) hs hpl))
  obtain ⟨i, j, k, n, e, ⟨c0, c1, c3⟩, q⟩ := q1
  subst e
  cases r1 with
  | cons r rr =>
    cases rr with
    | cons r' rr =>
      cases rr with
      | cons r'' rr =>
        cases rr
        obtain ⟨t, rfl⟩ := r
        obtain ⟨t', rfl⟩ := r'
        obtain ⟨t'', rfl⟩ := r''
        refine call_range_3 c0 ?_ (.inl (PyProof.noPylong_of_log2 c1))
        have I2 : Inv X pins σ H1 { s1 with heap := s1.heap.push { cls := .type "range", data := .fields #[.int i t, .int j t', .int k t''] } } := I1.kept (t' := s1.toks) fun b o e => Heap.get?_push_of_some _ e
        have e1 : i + ((0 : Nat) : Int) * k = i := by simp
        have e2 : (n : Int) - ((0 : Nat) : Int) = Builtin.Range.rangeSize i j k := by rw [c3]; simp
        cases hsm : Builtin.Range.small i j k with
        | true =>
          refine wpAny_pyIter_range (IsRange.new ..) hsm ?_
          refine pi_one (tk := s1.toks) I2 _ (turn_rangeC _ i k n) ?_ q
          show IsRangeIter _ _ (i + ((0 : Nat) : Int) * k) ((n : Int) - ((0 : Nat) : Int)) k
          rw [e1, e2]
          exact Heap.get?_push_size _ rfl
        | false =>
          refine wpAny_pyIter_longrange (IsRange.new ..) hsm ?_
          refine pi_one (tk := s1.toks) I2 _ (turn_rangeL _ i k n) ?_ q
          show IsLongIter _ _ (i + ((0 : Nat) : Int) * k) ((n : Int) - ((0 : Nat) : Int)) k
          rw [e1, e2]
          exact Heap.get?_push_size _ rfl
end
def rng3B (i j c : Int) : Prop := (small62 i ∧ small62 j) ∧ 0 < c ∧ c.natAbs.log2 < 9000
instance {i j c : Int} : Decidable (rng3B i j c) := inferInstanceAs (Decidable (_ ∧ _))
theorem rng3_RgB {i j c : Int} (h : rng3B i j c) : RgB i j c ((j - i + c - 1) / c).toNat := by
  obtain ⟨⟨⟨h1, h2⟩, h3, h4⟩, h5, h6⟩ := h
  have e1 : j - i + c - 1 = (j - i - 1) + 1 * c := by omega
  refine ⟨by omega, h6, ?_⟩
  unfold Builtin.Range.rangeSize
  rw [if_pos (by omega), e1, Int.add_mul_ediv_right _ _ (by omega)]
  split
  · have := Int.ediv_nonneg (a := j - i - 1) (b := c) (by omega) (by omega)
    omega
  · have := Int.ediv_neg_of_neg_of_pos (a := j - i - 1) (b := c) (by omega) (by omega)
    omega
section
variable {X : Cx} {τ : TEnv} {M : Mem} {E : XKx} {a b c tg : Expr} {p pos : Pos} {PI' : List Dat → Mem → (Mem → Prop) → Prop}
theorem ei_range3B (hm : X.mg "range" = none) (h : EX X false a τ M (fun d M1 => EX X false b τ M1 (fun d2 M2 => EX X false c τ M2 (fun d3 M3 => ∃ i j c' n, d = .int i ∧ d2 = .int j ∧ d3 = .int c' ∧ RgB i j c' n ∧ PI' (rngC i c' n) M3 anyM) E) E) E) (hg : Gl X "range" := by rfl)
    (hs : starEach [a, b, c] X.env = (false, eval a X.env) :: starEach [b, c] X.env := by rfl) (hs2 : starEach [b, c] X.env = (false, eval b X.env) :: starEach [c] X.env := by rfl) (hs3 : starEach [c] X.env = (false, eval c X.env) :: starEach [] X.env := by rfl) (hpl : (backTo pos (starEach [b, c] X.env)).any (·.1) = false := by rfl) :
    EI X tg (.Call (.Name "range" p) [a, b, c] [] pos) τ M PI' E := .mk fun W tk σ G H hE hH R hR hX => by
  refine tWI_of (pi_range3B hg hm (pa_cons pe_W (pa_cons pe_W (pa_cons pe_W pa_nil hs3) hs2) hs) hs hpl) ?_
  refine h.run W tk σ G H hE hH _ ?_ hX
  intro d M1 v G1 H1 hb s1 h1 dv
  refine hb.run W tk σ G1 H1 (hE.up s1.gg) h1 _ ?_ (hX.step s1)
  intro d2 M2 v2 G2 H2 hb2 s2 h2 dv2
  refine hb2.run W tk σ G2 H2 ((hE.up s1.gg).up s2.gg) h2 _ ?_ ((hX.step s1).step s2)
  intro d3 M3 v3 G3 H3 ⟨i, j, c', n, ed, ed2, ed3, hrg, hp⟩ s3 h3 dv3
  subst ed; subst ed2; subst ed3
  exact ⟨i, j, c', n, by rw [dv.int_inv, dv2.int_inv, dv3.int_inv], hrg, hR _ _ _ _ _ _ hp ((s1.trans s2).trans s3) h3 walkD_rangeC⟩
theorem ei_rng3B (hm : X.mg "range" = none) (h : EX X false a τ M (fun d M1 => EX X false b τ M1 (fun d2 M2 => EX X false c τ M2 (fun d3 M3 => ∃ i j k, d = .int i ∧ d2 = .int j ∧ d3 = .int k ∧ rng3B i j k ∧ PI' ((rangeC i k ((j - i + k - 1) / k).toNat).map Dat.int) M3 anyM) E) E) E) (hg : Gl X "range" := by rfl)
    (hs : starEach [a, b, c] X.env = (false, eval a X.env) :: starEach [b, c] X.env := by rfl) (hs2 : starEach [b, c] X.env = (false, eval b X.env) :: starEach [c] X.env := by rfl) (hs3 : starEach [c] X.env = (false, eval c X.env) :: starEach [] X.env := by rfl) (hpl : (backTo pos (starEach [b, c] X.env)).any (·.1) = false := by rfl) :
    EI X tg (.Call (.Name "range" p) [a, b, c] [] pos) τ M PI' E :=
  ei_range3B hm (h.imp (fun d M1 h1 => h1.imp (fun d2 M2 h2 => h2.imp (fun d3 M3 ⟨i, j, k, e1, e2, e3, hr, hp⟩ => ⟨i, j, k, _, e1, e2, e3, rng3_RgB hr, by rw [rngC_map]; exact hp⟩) fun _ _ x => x) fun _ _ x => x) fun _ _ x => x) hg hs hs2 hs3 hpl
end
/-! ### == by an own __eq__, as it is found -/
def EqO (pr : Program) (w : World) (K : PySem.W.Frag) (mg : Str → Option Value) (base : Heap) (A : Around) (x y : Dat) (m : Res Bool) : Prop :=
  ∃ (C fa : Addr) (fd : FuncData) (k : Nat) (ps : List Str) (S : Spc) (t : Value), FnD pr w K mg base k fa fd ps S ∧ Room (k + 1) A ∧ Meth K C "__eq__" fa ∧ PySem.W.findIn K (.ref C) "__ne__" = some (some (.builtin "object.__ne__")) ∧ ICls K C ∧ Binds K fd ps [] ∧
    (∀ M, IsI C "__eq__" M x) ∧ (∀ M, TyD K M y t) ∧ PySem.W.notFirst K C t = true ∧ ∀ (M : Mem) (P' : PK') (E' : XKx), m.Out (fun r => P' (.bl r) M) (fun _ => False) → S [x, y] M P' E'
section
variable {X : Cx} {T : Bool} {M : Mem} {P : PK'} {x y : Dat} {m : Res Bool} {Q : Bool → Prop} {E1 : Er → Prop}
end
end Kh

set_option Elab.async false
set_option linter.all false
set_option maxRecDepth 100000
set_option maxHeartbeats 1000000
namespace Kh
open PySem PySem.Spec L2
open PySem.SeqAt PySem.MeetsSeq PySem.MeetsSeq2 PySem.MeetsSeq3 PySem.SeqRoads2
open PySem.AutoSeq1 (wpAny_loadPart')
/-! ### tuples compared, whose items have an own == -/
section
variable {X : Cx} {T : Bool} {M : Mem} {P : PK'} {α : Type} {f : α → Dat} {me : α → α → Res Bool} {xs ys : List α} {Q1 : Bool → Prop} {E1 : Er → Prop}
end
/-! instances at one place -/
/-! ### tuples joined and cut -/
section
variable {X : Cx} {T : Bool} {M : Mem} {P : PK'} {α : Type} {E1 : Er → Prop}
end
end Kh

set_option Elab.async false
set_option linter.all false
set_option maxRecDepth 100000
set_option maxHeartbeats 1000000
namespace Kh
open PySem PySem.Spec L2
/-! ### bits -/
section
variable {X : Cx} {T : Bool} {M : Mem} {P : PK'} {E1 : Er → Prop} {i j : Int}
end
/-! ### sorted(set(pairs)) -/
def ltP2 (p q : Int × Int) : Prop := p.1 < q.1 ∨ (p.1 = q.1 ∧ p.2 < q.2)
instance {p q : Int × Int} : Decidable (ltP2 p q) := inferInstanceAs (Decidable (_ ∨ _))
section
variable {X : Cx} {T : Bool} {τ : TEnv} {M : Mem} {P : PK'} {E : XKx} {e : Expr} {p1 p2 pos1 pos2 : Pos}
end
/-! ### for x in an instance whose __iter__ gives iter(a tuple of its own) -/
end Kh

set_option Elab.async false
set_option linter.all false
set_option maxRecDepth 100000
set_option maxHeartbeats 1000000
namespace Kh
open PySem PySem.Spec L2
/-! ### [y for x in e for y in x] -/
section
variable {X : Cx} {T : Bool} {tg iter elt tg1 iter1 : Expr} {τ : TEnv} {M : Mem} {E : XKx} {pos : Pos} {vs vs1 : List Nat} {P : PK'}
end
end Kh

set_option Elab.async false
set_option linter.all false
set_option maxRecDepth 100000
set_option maxHeartbeats 1000000
namespace Kh
open PySem PySem.Spec L2
open PySem.SeqAt PySem.MeetsSeq PySem.MeetsSeq2 PySem.MeetsSeq3 PySem.SeqRoads2
open PySem.AutoSeq1 (wpAny_loadPart')
/-! ### lists compared, whose items have an own == -/
section
variable {prog : Program} {w : World} {A : Around} {R : Result → Shared → Prop}
end
section
variable {prog : Program} {w : World} {A : Around} {E : Value → Shared → Prop} {s : Shared}
end
/-- items of a kind with an own ==, as they are compared inside a builtin -/
structure OwnEq (X : Cx) (α : Type) (f : α → Dat) (me : α → α → Res Bool) : Prop where
  el : ∀ x y, EqO X.prog X.w X.K X.mg X.base X.A.in1 (f x) (f y) (me x y)
  isR : ∀ x, isR (f x) = true
  inj : ∀ (G : Hp) x y a, Den X.K G (f x) (.ref a) → Den X.K G (f y) (.ref a) → x = y
  self : ∀ x, me x x = .ok true
section
variable {X : Cx} {T : Bool} {M : Mem} {P : PK'} {α : Type} {f : α → Dat} {me : α → α → Res Bool} {Q1 : Bool → Prop} {E1 : Er → Prop}
theorem LsD.up {K : PySem.W.Frag} {G H G' H' : Hp} {M : Mem} {d : Dat} {xs : List Dat} {a : Addr} (h : LsD M d xs) (hH : Hst K G M H) (hH' : Hst K G' M H') (s : Stp G M H G' M H') (dv : Den K G d (.ref a)) : ∃ vs, H' a = some (.lst vs) ∧ DenL K G' xs vs := by
  obtain ⟨a', vs, e, g1, g2⟩ := h.get hH' (dv.up s.gg)
  cases e
  exact ⟨vs, g1, g2⟩
end
end Kh

set_option Elab.async false
set_option linter.all false
set_option maxRecDepth 100000
set_option maxHeartbeats 1000000
namespace PySem.W
open Lean Elab Tactic Meta PySem PySem.Calls PyProof.Rows
/-! ### own operators with a right side of any other type -/
section
variable {prog : Program} {w : World} {M : Model} {A : Around} {E : Value → Shared → Prop} {s : Shared} {K : Frag} {x C L f : Addr} {h₀ : Heap} {m : Str → Option Value} {ox : Obj} {od : Option Obj} {nm T : String}
end
end PySem.W
namespace Kh
open PySem PySem.Spec L2
section
variable {X : Cx} {T : Bool} {τ : TEnv} {M : Mem} {P : PK'} {E : XKx} {a b e : Expr} {pos : Pos} {k : Nat} {fa C : Addr} {fd : FuncData} {ps : List Str} {S : Spc} {W : WX} {op : Operator} {cl : OK → Addr × List Str} {pr : OK → Bool}
end
end Kh

set_option Elab.async false
set_option linter.all false
set_option maxRecDepth 100000
set_option maxHeartbeats 1000000
namespace Kh
open PySem PySem.Spec L2
/-! ### a comprehension's list as a cell -/
section
variable {X : Cx} {T : Bool} {tg iter elt e a b c : Expr} {τ : TEnv} {M : Mem} {E : XKx} {pos p : Pos} {vs : List Nat} {P : PK'}
theorem lc_readC {scope : Scope} (hi : EI X tg iter τ M (fun ds M1 Ok => ds.length ≤ sizeLine ∧ ∃ I : Nat → List Dat → Mem → Prop, I 0 [] M1 ∧ (∀ i acc M, I i acc M → Ok M) ∧
      (∀ i d acc M, ds[i]? = some d → I i acc M → ∀ (s : Shared) (H : Hp) (C : Addr) (cl : List (Str × Addr)) (fp : List Addr), GC (Cx.Bk X scope s H C cl fp) vs tg d (wipeT τ vs) M (fun τ2 M2 => ∀ (s : Shared) (H : Hp) (C : Addr) (cl : List (Str × Addr)) (fp : List Addr),
        EFs (Cx.Bk X scope s H C cl fp) ifs τ2 M2 (fun b M3 => (b = true → ∀ (s : Shared) (H : Hp) (C : Addr) (cl : List (Str × Addr)) (fp : List Addr), EX (Cx.Bk X scope s H C cl fp) false elt τ2 M3 (fun y M4 => I (i + 1) (acc ++ [y]) M4) E0') ∧ (b = false → I (i + 1) acc M3)))) ∧
      (∀ acc M, I ds.length acc M → ∀ q, P (.raw (.ref q)) ((q, .lst acc) :: M))) E)
    {W : WX} (tk : Takes X W) {σ : L2.St} {G H : Hp} (hE : DenE X.K τ G σ) (hH : Hst X.K G M H) {Q : VK} (hP : CE' X.K G M H P Q) (hX : CX' X.K G M H E (fun c d H2 => W c d σ H2)) :
    tLc (tWI X false tg iter) (gFam X scope tg) (iFam X scope ifs) (eFam X scope elt) vs σ H Q := by
  refine hi.run W tk σ G H hE hH _ ?_ hX
  intro J ds M1 G1 H1 Ok ⟨hz, I, h0, hOk, hb, hd⟩ s1 h1 w D hD
  have hDH : ∀ b o, b ∉ adr M → H b = some o → b ≠ D := fun b o n e z => by rw [← z, s1.hh b o n e] at hD; cases hD
  -- the new list at D, beside
  have gD : ∀ {G' H' : Hp} {M' : Mem}, Hst X.K G' M' H' → H' D ≠ none → True := fun _ _ => trivial
  let Pv : Nat → Hp → Prop := fun i H' => ∃ acc aV M' G', I i acc M' ∧ acc.length ≤ i ∧ Hst X.K G' M' H' ∧ Stp G M H G' M' H' ∧ Same G1 G' ∧ H' D = some (.lst aV) ∧ DenL X.K G' acc aV ∧ G' D = none ∧ D ∉ adr M'
  have laid : ∀ {G' H' : Hp} {M' : Mem} {xs : List V}, Hst X.K G' M' H' → G' D = none → D ∉ adr M' → Hst X.K G' M' (upd H' D (.lst xs)) := fun {G' H' M' xs} h g n =>
    ⟨fun b o e => by rw [upd_ne (fun z => by rw [z, g] at e; cases e)]; exact h.sub b o e, fun c hc => (h.mem c hc).up (Same.refl _) fun b hb o e => by rw [upd_ne (fun z => n (by rw [← z]; exact List.mem_flatMap.mpr ⟨c, hc, hb⟩))]; exact e, h.out, h.nd⟩
  have stp : ∀ {G' H' : Hp} {M' : Mem} {xs : List V}, Stp G M H G' M' H' → Stp G M H G' M' (upd H' D (.lst xs)) := fun {G' H' M' xs} s =>
    ⟨s.gg, fun b o n e => by rw [upd_ne (hDH b o n e)]; exact s.hh b o n e, s.fr, s.ad⟩
  have n0 : D ∉ adr M1 := fun z => h1.there D z hD
  have g0 : G1 D = none := h1.sub.free hD
  refine ⟨fun i m H' => m = ds.length - i ∧ i ≤ ds.length ∧ Pv i H', ⟨_, rfl, Nat.zero_le _, [], [], M1, G1, h0, Nat.zero_le _, laid h1 g0 n0, stp s1, Same.refl _, upd_same, .nil, g0, n0⟩, ?_⟩
  rintro i m H' ⟨rfl, hle, acc, aV, M', G', hI, hal, h', s', g', hDl, hda, hg', hn'⟩
  obtain ⟨w1, w2, w3⟩ := w G' M' H' g' h' (hOk _ _ _ hI)
  -- D through a step
  have thru : ∀ {G2 H2 : Hp} {M2 : Mem}, Stp G' M' H' G2 M2 H2 → H2 D = some (.lst aV) ∧ DenL X.K G2 acc aV ∧ G2 D = none ∧ D ∉ adr M2 := fun {G2 H2 M2} s =>
    ⟨s.hh D _ hn' hDl, hda.up s.gg, s.fr D (by rw [hDl]; exact fun z => nomatch z) hn' hg', fun z => (s.ad D z).elim hn' fun q => by rw [hDl] at q; cases q⟩
  by_cases hlt : i < ds.length
  · refine .inr ⟨w1 i hlt, fun H2 => Pv (i + 1) H2, fun H2 q => ⟨ds.length - (i + 1), by omega, rfl, hlt, q⟩, fun x H2 y => ?_⟩
    obtain ⟨G2, s2, h2, dx⟩ := w3 i x H2 hlt y
    have hd' := List.getElem?_eq_getElem hlt
    have eW : DenE X.K (wipeT τ vs) G2 (wipe σ vs) := denE_wipe ((hE.up s'.gg).up s2.gg) vs
    intro sA HA CA clA fpA
    refine hb i _ acc M' hd' hI sA HA CA clA fpA (wipe σ vs) G2 H2 x eW h2 (dx _ hd') _ ?_
    intro τ3 M3 G3 H3 σ3 p3 s3 h3 e3 l3 k3
    refine ⟨?_, fun sB HB CB clB fpB => ?_⟩
    · rw [wipe_ext l3 k3, wipe_wipe]
    refine p3 sB HB CB clB fpB σ3 G3 H3 e3 h3 _ ?_
    intro bb M4 G4 H4 ⟨p4, p4'⟩ s4 h4
    have s24 := (s2.trans s3).trans s4
    cases bb with
    | false =>
      refine iteF ?_
      obtain ⟨t1, t2, t3, t4⟩ := thru s24
      exact ⟨acc, aV, M4, G4, p4' rfl, by omega, h4, s'.trans s24, g'.trans s24.gg, t1, t2, t3, t4⟩
    | true =>
      refine iteT fun sC HC CC clC fpC => ?_
      refine (p4 rfl sC HC CC clC fpC).run _ takes0 σ3 G4 H4 (e3.up s4.gg) h4 _ ?_ noX
      intro y5 M5 v5 G5 H5 p5 s5 h5 d5
      have s25 := s24.trans s5
      obtain ⟨t1, t2, t3, t4⟩ := thru s25
      refine ⟨aV, t1, by rw [hda.length]; omega, acc ++ [y5], aV ++ [v5], M5, G5, p5, by rw [List.length_append]; simp; omega, laid h5 t3 t4, stp (s'.trans s25), g'.trans s25.gg, upd_same, t2.snoc d5, t3, t4⟩
  · have e : i = ds.length := by omega
    subst e
    refine .inl ⟨w2, ?_⟩
    have hC : Hst X.K G' ((D, .lst acc) :: M') H' := ⟨h'.sub, fun c hc => by
      rcases List.mem_cons.mp hc with rfl | hc
      · exact ⟨aV, hDl, hda⟩
      · exact h'.mem c hc, fun b hb => by
      rcases List.mem_cons.mp (show b ∈ D :: adr M' from hb) with rfl | hb
      · exact hg'
      · exact h'.out b hb, List.nodup_cons.mpr ⟨hn', h'.nd⟩⟩
    have sC : Stp G M H G' ((D, .lst acc) :: M') H' := ⟨s'.gg, s'.hh, s'.fr, fun b hb => by
      rcases List.mem_cons.mp (show b ∈ D :: adr M' from hb) with rfl | hb
      · by_cases c : b ∈ adr M
        · exact .inl c
        · refine .inr ?_
          cases q : H b with
          | none => rfl
          | some o => exact (hDH b o c q rfl).elim
      · exact s'.ad b hb⟩
    exact hP _ _ _ _ _ (hd acc M' hI D) sC hC den_raw
theorem ws_setLcC0 {x : Str} {px : Pos} {scope : Scope} {ifs : List Expr} {lpos : Pos} {rest : List Stmt} {R : RK} (own : List (Str × Nat)) (h : EI X tg iter τ M (fun ds M1 Ok => ds.length ≤ sizeLine ∧ ∃ I : Nat → List Dat → Mem → Prop, I 0 [] M1 ∧ (∀ i acc M, I i acc M → Ok M) ∧
      (∀ i d acc M, ds[i]? = some d → I i acc M → ∀ (s : Shared) (H : Hp) (C : Addr) (cl : List (Str × Addr)) (fp : List Addr), GC (Cx.Bk X scope s H C cl fp) (own.map (·.2)) tg d (wipeT τ (own.map (·.2))) M (fun τ2 M2 => ∀ (s : Shared) (H : Hp) (C : Addr) (cl : List (Str × Addr)) (fp : List Addr),
        EFs (Cx.Bk X scope s H C cl fp) ifs τ2 M2 (fun b M3 => (b = true → ∀ (s : Shared) (H : Hp) (C : Addr) (cl : List (Str × Addr)) (fp : List Addr), EX (Cx.Bk X scope s H C cl fp) false elt τ2 M3 (fun y M4 => I (i + 1) (acc ++ [y]) M4) E0') ∧ (b = false → I (i + 1) acc M3)))) ∧
      (∀ acc M, I ds.length acc M → ∀ q, WS X T rest (τ.set (ixIn X.N x) (some (.raw (.ref q)))) ((q, .lst acc) :: M) R)) (fun x M1 => R (.ex x τ) M1))
    (hi : X.N[ixIn X.N x]? = some x := by rfl) (hyl : X.env.scope.names.lookup x = some .local := by rfl) (hsw : swapsWith (.ListComp elt [⟨tg, iter, ifs, 0⟩] scope lpos) (some (.Name x px)) pos.line X.env = pure true := by exact sw_true rfl rfl rfl (by first | decide +kernel | kernel_rfl))
    (ok : BlkOk X.N X.env.scope scope own := by exact blkOk_by (by first | decide +kernel | kernel_rfl)) (hN : X.N.Nodup := by first | decide +kernel | exact of_decide_eq_true (by kernel_rfl)) (hc : X.calm = true := by rfl) (hs : ∀ x, foldedSetIterable iter X.env x = pure x := by intro _; rfl) :
    WS X T (.Assign [.Name x px] (.ListComp elt [⟨tg, iter, ifs, 0⟩] scope lpos) pos :: rest) τ M R := .mk fun W tk σ G H hE hH D hR => tWSs_len fun hl => by
  refine ws_step (ps_setLc hc hN hi hyl hsw pi_W ok pg_fam pt_fam pe_fam hs) ?_
  have hlt : ixIn X.N x < σ.length := by rw [hl]; exact (List.getElem?_eq_some_iff.mp hi).1
  exact lc_readC (P := fun d M => ∃ q, d = .raw (.ref q) ∧ WS X T rest (τ.set (ixIn X.N x) (some (.raw (.ref q)))) M R) (.mk fun W' tk' σ' G' H' hE' hH' R' hR' hX' => h.run W' tk' σ' G' H' hE' hH' R' (fun J ds M1 G1 H1 Ok ⟨hz, I, i1, i2, i3, i4⟩ => hR' J ds M1 G1 H1 Ok ⟨hz, I, i1, i2, i3, fun acc M hi q => ⟨q, rfl, i4 acc M hi q⟩⟩) hX') tk hE hH
    (fun d M2 v G2 H2 ⟨q, ed, r⟩ s h2 dv => by subst ed; exact r.run W tk _ G2 H2 ((hE.up s.gg).set hlt dv) h2 D (hR.step s)) (ex_out hR hE)
end
/-- what a comprehension's list does as a cell -/
def cellP (P : PK') : PK' := fun d M => ∀ acc, d = .lst acc → ∀ q, P (.raw (.ref q)) ((q, .lst acc) :: M)
section
variable {X : Cx} {T : Bool} {tg iter elt : Expr} {τ : TEnv} {M : Mem} {pos : Pos} {P : PK'} {rest : List Stmt} {R : RK}
theorem ws_setLcC {x : Str} {px : Pos} {scope : Scope} {ifs : List Expr} {elt : Expr} {lpos : Pos} (own : List (Str × Nat)) (h : EI X tg iter τ M (fun ds M1 Ok => LcQ X scope (own.map (·.2)) tg ifs elt τ ds M1 Ok (cellP fun d M => WS X T rest (τ.set (ixIn X.N x) (some d)) M R)) (fun x M1 => R (.ex x τ) M1))
    (hi : X.N[ixIn X.N x]? = some x := by rfl) (hyl : X.env.scope.names.lookup x = some .local := by rfl) (hsw : swapsWith (.ListComp elt [⟨tg, iter, ifs, 0⟩] scope lpos) (some (.Name x px)) pos.line X.env = pure true := by exact sw_true rfl rfl rfl (by first | decide +kernel | kernel_rfl))
    (ok : BlkOk X.N X.env.scope scope own := by exact blkOk_by (by first | decide +kernel | kernel_rfl)) (hN : X.N.Nodup := by first | decide +kernel | exact of_decide_eq_true (by kernel_rfl)) (hc : X.calm = true := by rfl) (hs : ∀ x, foldedSetIterable iter X.env x = pure x := by intro _; rfl) :
    WS X T (.Assign [.Name x px] (.ListComp elt [⟨tg, iter, ifs, 0⟩] scope lpos) pos :: rest) τ M R :=
  ws_setLcC0 own (.mk fun W tk σ G H hE hH R' hR' hX' => h.run W tk σ G H hE hH R' (fun J ds M1 G1 H1 Ok ⟨hz, I, i1, i2, i3, i4⟩ => hR' J ds M1 G1 H1 Ok ⟨hz, I, i1, i2, i3, fun acc M hi q => i4 acc M hi acc rfl q⟩) hX') hi hyl hsw ok hN hc hs
end
/-! ### tuple(a list that is told as data or as a cell) -/
section
variable {X : Cx} {M : Mem} {P : PK'} {α : Type}
end
end Kh

set_option Elab.async false
set_option linter.all false
set_option maxRecDepth 100000
set_option maxHeartbeats 1000000
namespace Kh
open PySem PySem.Spec L2
theorem cellT {α : Type} {f : α → Dat} {ys : List α} {P : PK'} {M : Mem} (h : ∀ q, P (.raw (.ref q)) ((q, .lst (ys.map f)) :: M)) : cellP P (lstD f ys) M := fun acc e q => by
  cases e; exact h q
/-! ### not None, as it stands -/
def isNoneD : Dat → Bool
  | .non => true
  | .raw (.ref _) => false
  | .raw _ => true
  | _ => false
theorem isNoneD_ne {K : PySem.W.Frag} {G : Hp} {d : Dat} {v : V} (h : isNoneD d = false) (dv : Den K G d v) : decide (v = V.non) = false := by
  by_cases e : ∃ u, d = .raw u
  · obtain ⟨u, rfl⟩ := e
    have := dv.raw_inv
    subst this
    cases v <;> first | rfl | cases h
  · rw [den_isN dv (fun u q => e ⟨u, q⟩)]
    cases d <;> first | rfl | cases h
section
variable {X : Cx} {T : Bool} {M : Mem} {P : PK'}
theorem o_isNA {x : Dat} (hn : isNoneD x = false) (h : P (.bl false) M) : OP X T (compareOp .Is) x .non M P := op_of op_isN fun G H v u hH dx dy Q hP => ⟨dy.non_inv, by rw [isNoneD_ne hn dx]; exact hP _ _ _ _ _ h Stp.refl hH den_bl⟩
end
end Kh

set_option Elab.async false
set_option linter.all false
set_option maxRecDepth 100000
set_option maxHeartbeats 1000000
namespace Kh
open PySem PySem.Spec L2
open PySem.SeqAt (EqAt RcAt RcNeAt)
section
variable {X : Cx} {T : Bool} {M : Mem} {P : PK'}
end
end Kh

set_option Elab.async false
set_option linter.all false
set_option maxRecDepth 100000
set_option maxHeartbeats 1000000
namespace Kh
open PySem PySem.Spec L2
/-! ### [y for x in e for y in x] as a value -/
section
variable {X : Cx} {T : Bool} {tg iter elt tg1 iter1 : Expr} {τ : TEnv} {M : Mem} {E : XKx} {pos : Pos} {P : PK'}
end
/-! ### max(a list of whole numbers) -/
section
variable {X : Cx} {T : Bool} {M : Mem} {P : PK'} {E1 : Er → Prop}
end
/-! ### sorted(set(pairs)) -/
/-! ### a call of what an expression tells -/
section
variable {X : Cx} {τ : TEnv} {M : Mem} {P : PK'} {E : XKx} {cal e : Expr} {es : List Expr} {pos : Pos}
end
end Kh

set_option Elab.async false
set_option linter.all false
set_option maxRecDepth 100000
set_option maxHeartbeats 1000000
namespace Kh
open PySem PySem.Spec L2
section
variable {X : Cx} {T : Bool} {M : Mem} {P : PK'}
end
end Kh
namespace Kh
open PySem PySem.Spec L2
section
variable {X : Cx} {T : Bool} {τ : TEnv} {M : Mem} {P : PK'} {E : XKx} {e : Expr} {p1 p2 pos1 pos2 : Pos}
end
end Kh

set_option Elab.async false
set_option linter.all false
set_option maxRecDepth 100000
set_option maxHeartbeats 1000000
namespace Kh
open PySem PySem.Spec L2
/-! ### calls with keywords, with defaults -/
def tWK (X : Cx) (kws : List Keyword) : TA := fun σ H Q => ∀ (pos : Pos) pins s, Inv X pins σ H s → wpAny (model X.prog X.w) X.A (evalAll ((backToKw pos (keywordEach kws X.env)).map (·.2))) (L2.AP X pins σ Q) X.xe s
theorem pk_W {X : Cx} {kws : List Keyword} : PK X kws (tWK X kws) := ⟨fun pos pins s σ H Q I h => h pos pins s I⟩
theorem tWK_of {X : Cx} {kws : List Keyword} {t : TA} {σ : L2.St} {H : Hp} {Q : List V → Hp → Prop} (h : PK X kws t) (q : t σ H Q) : tWK X kws σ H Q := fun pos pins s I => h.run pos pins s σ H Q I q
structure EKw (X : Cx) (kws : List Keyword) (τ : TEnv) (M : Mem) (P : List Dat → Mem → Prop) (E : XKx) : Prop where
  run : ∀ W, Takes X W → ∀ σ G H, DenE X.K τ G σ → Hst X.K G M H → ∀ Q, CA' X.K G M H P Q → CX' X.K G M H E (fun c d H2 => W c d σ H2) → tWK X kws σ H Q
/-- where a parameter's value comes from -/
inductive Src where
  | p (i : Nat) | k (i : Nat) | d (x : Dat) (v : V) (u : Value)
def Src.dat (ds zs : List Dat) : Src → Dat
  | .p i => ds.getD i .non
  | .k i => zs.getD i .non
  | .d x _ _ => x
def Src.vv (vs zs : List V) : Src → V
  | .p i => vs.getD i .non
  | .k i => zs.getD i .non
  | .d _ v _ => v
def Src.val (us ws : List Value) : Src → Value
  | .p i => us.getD i .none
  | .k i => ws.getD i .none
  | .d _ _ u => u
def Src.Ok (K : PySem.W.Frag) : Src → Prop
  | .d x v u => (∀ G, Den K G x v) ∧ RelV v u
  | _ => True
structure KwB (K : PySem.W.Frag) (fd : FuncData) (ps : List Str) (n : Nat) (ks : List Str) (t : List Src) : Prop where
  to : ∀ (s : Shared) (us ws : List Value), K.In s.heap → us.length = n → ws.length = ks.length → BindsTo s fd ⟨us, ks.zip ws⟩ (ps.zip (t.map (Src.val us ws)))
  ok : ∀ x ∈ t, x.Ok K
theorem okn {K : PySem.W.Frag} : ∀ x ∈ ([] : List Src), x.Ok K := fun x h => by simp at h
theorem okc {K : PySem.W.Frag} {x : Src} {t : List Src} (h : x.Ok K) (r : ∀ y ∈ t, y.Ok K) : ∀ y ∈ x :: t, y.Ok K := fun y hy => by
  rcases List.mem_cons.mp hy with rfl | hy
  · exact h
  · exact r y hy
theorem vals_getD {vs : List V} {us : List Value} (r : Vals vs us) (i : Nat) : RelV (vs.getD i .non) (us.getD i .none) := by
  induction r generalizing i with
  | nil => cases i <;> rfl
  | cons h r ih =>
    cases i with
    | zero => exact h
    | succ i => exact ih i
theorem denL_getD {K : PySem.W.Frag} {G : Hp} {ds : List Dat} {vs : List V} (h : DenL K G ds vs) (i : Nat) : Den K G (ds.getD i .non) (vs.getD i .non) := by
  by_cases hi : i < ds.length
  · obtain ⟨v, e, d⟩ := h.get (List.getElem?_eq_getElem hi)
    simp only [List.getD, List.getElem?_eq_getElem hi, e, Option.getD_some]
    exact d
  · have hv : ¬ i < vs.length := by rw [h.length]; exact hi
    simp only [List.getD, List.getElem?_eq_none (Nat.le_of_not_lt hi), List.getElem?_eq_none (Nat.le_of_not_lt hv), Option.getD_none]
    exact den_non
theorem src_vals {K : PySem.W.Frag} {vs : List V} {us : List Value} {zs : List V} {ws : List Value} (r : Vals vs us) (q : Vals zs ws) : ∀ {t : List Src}, (∀ x ∈ t, x.Ok K) → Vals (t.map (Src.vv vs zs)) (t.map (Src.val us ws))
  | [], _ => .nil
  | x :: t, h => .cons (by
      cases x with
      | p i => exact vals_getD r i
      | k i => exact vals_getD q i
      | d x v u => exact (h _ List.mem_cons_self).2) (src_vals r q fun y hy => h y (List.mem_cons_of_mem _ hy))
theorem src_den {K : PySem.W.Frag} {G : Hp} {ds zs : List Dat} {vs ws : List V} (r : DenL K G ds vs) (q : DenL K G zs ws) : ∀ {t : List Src}, (∀ x ∈ t, x.Ok K) → DenL K G (t.map (Src.dat ds zs)) (t.map (Src.vv vs ws))
  | [], _ => .nil
  | x :: t, h => .cons (by
      cases x with
      | p i => exact denL_getD r i
      | k i => exact denL_getD q i
      | d x v u => exact (h _ List.mem_cons_self).1 G) (src_den r q fun y hy => h y (List.mem_cons_of_mem _ hy))
theorem binds_k {K : PySem.W.Frag} {s : Shared} {fd : FuncData} {args : Args} {r : List (Str × Value)} {D : Addr} {l : List (Str × Value)} (X : K.In s.heap)
    (hks : ∀ q ∈ l, PySem.W.nsIn K D q.1 = some (some q.2)) (h2 : KwChain D l (bindArgs fd args) r) : BindsTo s fd args r := BindsTo.of_looks fun M => KwChain.looks X hks h2
theorem hk1 {K : PySem.W.Frag} {D : Addr} {x : Str} {v : Value} (h : PySem.W.nsIn K D x = some (some v)) : ∀ q ∈ [(x, v)], PySem.W.nsIn K D q.1 = some (some q.2) := fun q hq => by
  rw [List.mem_singleton.mp hq]; exact h
section
variable {X : Cx} {T : Bool} {τ : TEnv} {M : Mem} {P : PK'} {E : XKx} {e : Expr} {es : List Expr} {pos p kpos : Pos} {k n : Nat} {f : Addr} {fd : FuncData} {ps ks : List Str} {S : Spc} {x : Str} {nm : Option Str} {kws : List Keyword} {t : List Src}
theorem ek_nil {P : List Dat → Mem → Prop} (h : P [] M) : EKw X [] τ M P E := .mk fun W tk σ G H hE hH Q hP hX => tWK_of pk_nil (hP _ _ _ _ _ h Stp.refl hH .nil)
theorem ek_cons {P : List Dat → Mem → Prop} (h : EX X false e τ M (fun d M1 => EKw X kws τ M1 (fun ds M2 => P (d :: ds) M2) E) E) : EKw X (⟨nm, e, kpos⟩ :: kws) τ M P E := by
  refine .mk ?_; intro W tk σ G H hE hH Q hP hX
  refine tWK_of (pk_cons pe_W pk_W) ?_
  refine h.run W tk σ G H hE hH _ ?_ hX
  intro d M1 v G1 H1 hb s1 h1 dv
  refine hb.run W tk σ G1 H1 (hE.up s1.gg) h1 _ ?_ (hX.step s1)
  intro ds M2 vs G2 H2 ho s2 h2 dvs
  exact hP (d :: ds) M2 (v :: vs) G2 H2 ho (s1.trans s2) h2 (.cons (dv.up s2.gg) dvs)
theorem run_dN {pins : List (Addr × Obj)} {σ : L2.St} {H : Hp} {s : Shared} {Q : VK} {us ws : List Value} {vs zs : List V} {W : WX} (F : FnD X.prog X.w X.K X.mg X.base k f fd ps S) (hr : Room k X.A) (hb : KwB X.K fd ps n ks t) (tk : Takes X W)
    (I : Inv X pins σ H s) (r : Vals vs us) (rz : Vals zs ws) (l1 : vs.length = n) (l2 : zs.length = ks.length) (h : toSp X.K S (t.map (Src.vv vs zs)) H Q (fun c d H2 => W c d σ H2)) : wpAny (model X.prog X.w) X.A (call (.ref f) us (ks.zip ws)) (EP X pins σ Q) X.xe s := by
  have r2 := src_vals r rz hb.ok
  refine wpAny_call (codeAny_mono (F.run X.A X.stack s H ⟨us, ks.zip ws⟩ (t.map (Src.val us ws)) (t.map (Src.vv vs zs)) Q (fun c d H2 => W c d σ H2) hr I.env0 (hb.to s us ws I.kIn (r.length.symm.trans l1) (rz.length.symm.trans l2)) r2 h) fun r s' hq => ?_)
  cases r with
  | error e => exact tk e s' (XE.of_call I (fun cls d H' h => h) hq)
  | ok fl =>
    cases fl with
    | ret u => exact I.after hq
    | next => exact False.elim hq
    | brk => exact False.elim hq
    | cont => exact False.elim hq
/-- f(e, .., k = v, ..) -/
theorem ex_callK (F : FnD X.prog X.w X.K X.mg X.base k f fd ps S) (hr : Room k X.A) (hm : X.mg x = some (.ref f)) (hk : PySem.W.keepIn X.K (.ref f) = true) (hb : KwB X.K fd ps n ks t)
    (h : EA X T (e :: es) τ M (fun ds M1 => ds.length = n ∧ EKw X kws τ M1 (fun zs M2 => zs.length = ks.length ∧ S (t.map (Src.dat ds zs)) M2 (UpP P) (UpP E)) E) E) (hg : Gl X x := by rfl)
    (hall : (backToKw pos (keywordEach kws X.env)).all (·.1.isSome) = true := by rfl) (hks : (backToKw pos (keywordEach kws X.env)).filterMap (·.1) = ks := by rfl)
    (hdb : (x == ("__debug__" : Str)) = false := by decide) (he : starEach (e :: es) X.env = (false, eval e X.env) :: starEach es X.env := by rfl)
    (hpl : ((backTo pos (starEach (e :: es) X.env)).any (·.1) || (backToKw pos (keywordEach kws X.env)).any (·.1.isNone)) = false := by rfl) :
    EX X T (.Call (.Name x p) (e :: es) kws pos) τ M P E := by
  refine .mk ?_; intro W tk σ G H hE hH Q hP hX pins s k0 I
  refine wpAny_Call_Name_kw (ld_glob I hg hm ?_ hdb)
  have hA := h.run W tk σ G H hE hH (fun vs H1 => vs.length = n ∧ tWK X kws σ H1 fun zs H2 => zs.length = ks.length ∧ toSp X.K S (t.map (Src.vv vs zs)) H2 Q (fun c d H3 => W c d σ H3)) (fun ds M1 vs G1 H1 ⟨hl, ha⟩ s1 h1 dv => by
    refine ⟨by rw [dv.length]; exact hl, ha.run W tk σ G1 H1 (hE.up s1.gg) h1 _ (fun zs M2 ws G2 H2 ⟨hl2, hS⟩ s2 h2 dw => ?_) (hX.step s1)⟩
    exact ⟨by rw [dw.length]; exact hl2, ap_toSp (ap_all hS) (src_den (dv.up s2.gg) dw hb.ok) h2 (hP.step (s1.trans s2)) (hX.step (s1.trans s2))⟩) hX
  refine PySem.W.callWith_KW (h₀ := X.base) I.ok.mod.kin hk hall (thn (hA pos pins s k0 I) fun us s1 ⟨vs, H1, I1, r, l1, q⟩ => ?_) hpl he
  refine thn (q pos pins s1 I1) fun ws s2 ⟨zs, H2, I2, rz, l2, q2⟩ => ⟨I2.kIn, ?_⟩
  rw [hks]
  exact run_dN F hr hb tk I2 r rz l1 l2 q2
end
/-! ### a list backwards; list(range(..)); in a list of data -/
section
variable {X : Cx} {T : Bool} {τ : TEnv} {M : Mem} {P : PK'} {E : XKx} {e a b : Expr} {pos p p1 p2 p3 : Pos} {kk : Nat} {α : Type} {E1 : Er → Prop}
theorem denL_rev {K : PySem.W.Frag} {G : Hp} : ∀ {ds : List Dat} {vs : List V}, DenL K G ds vs → DenL K G ds.reverse vs.reverse
  | [], _, h => by rw [h.nil_inv]; exact .nil
  | d :: ds, _, h => by
    obtain ⟨v, r, rfl, h1, h2⟩ := h.cons_inv
    rw [List.reverse_cons, List.reverse_cons]
    exact (denL_rev h2).append (.cons h1 .nil)
theorem ex_revL (h : EX X false e τ M (fun d M1 => ∃ ds, LsD M1 d ds ∧ P (.lst ds.reverse) M1) E) : EX X T (.Subscript e (.Slice none none (some (.UnaryOp .USub (.Constant (.int 1) kk p1) p2)) p3) pos) τ M P E := .mk fun W tk σ G H hE hH Q hP hX => by
  refine tW_of (pe_revL pe_W) ?_
  refine h.run W tk σ G H hE hH _ (fun d M1 v G1 H1 ⟨ds, hl, hp⟩ s1 h1 dv => ?_) hX
  rcases hl with rfl | ⟨q, rfl, hq⟩
  · obtain ⟨c, vs, rfl, g, dl⟩ := dv.lst_inv
    refine ⟨c, vs, rfl, SqL.of (h1.sub _ _ g), fun r hr => ?_⟩
    obtain ⟨s2, h2⟩ := Stp.new (o := .lst vs.reverse) h1 hr
    exact hP _ _ _ _ _ hp (s1.trans s2) h2 (den_lst upd_same (denL_rev (dl.up s2.gg)))
  · obtain ⟨vs, g, dl⟩ := h1.mem _ hq
    obtain rfl := dv.raw_inv
    refine ⟨q, vs, rfl, SqL.of g, fun r hr => ?_⟩
    obtain ⟨s2, h2⟩ := Stp.new (o := .lst vs.reverse) h1 hr
    exact hP _ _ _ _ _ hp (s1.trans s2) h2 (den_lst upd_same (denL_rev (dl.up s2.gg)))
/-- list(range(n)) -/
def plrng (n : Int) : Res (List Int) := guard (0 ≤ n ∧ n ≤ 16777216) (rangeL 0 n.toNat)
theorem denL_rgV {K : PySem.W.Frag} {G : Hp} {n : Int} : DenL K G ((rangeL 0 n.toNat).map Dat.int) (rgV 0 n) := by
  unfold rgV rangeL
  rw [Int.sub_zero]
  generalize n.toNat = m
  induction m with
  | zero => exact .nil
  | succ m ih =>
    rw [List.range_succ, List.map_append, List.map_append, List.map_append]
    exact ih.append (.cons den_int .nil)
theorem ex_listRng (hm1 : X.mg "list" = none) (hm2 : X.mg "range" = none) (h : EX X false a τ M (fun d M1 => ∃ n, d = .int n ∧ ∃ Q, (plrng n).Out Q E1 ∧ ∀ l, Q l → P (lstD Dat.int l) M1) E) (hc : X.calm = true := by rfl) (hg1 : Gl X "list" := by rfl) (hg2 : Gl X "range" := by rfl)
    (na : starEach [a] X.env = (false, eval a X.env) :: starEach [] X.env := by rfl) (na2 : starEach [.Call (.Name "range" p2) [a] [] p3] X.env = (false, eval (.Call (.Name "range" p2) [a] [] p3) X.env) :: starEach [] X.env := by rfl) :
    EX X T (.Call (.Name "list" p1) [.Call (.Name "range" p2) [a] [] p3] [] pos) τ M P E := .mk fun W tk σ G H hE hH Q hP hX => by
  refine tW_of (pe_listRg hc hg1 hm1 (prg_1 hg2 hm2 pe_W na) na2) ?_
  refine h.run W tk σ G H hE hH _ (fun d M1 v G1 H1 ⟨n, ed, Q', hg, hk⟩ s1 h1 dv => ?_) hX
  subst ed
  have hb := (gd hg).1
  refine ⟨n, dv.int_inv, RgOk.of_le (Int.le_refl _) (by omega) (by omega) hb.1, fun r hr => ?_⟩
  obtain ⟨s2, h2⟩ := Stp.new (o := .lst (rgV 0 n)) h1 hr
  exact hP _ _ _ _ _ (hk _ (gd hg).2) (s1.trans s2) h2 (den_lst upd_same denL_rgV)
theorem any_eqv {e : α → Dat} [DecidableEq α] (p : PyE e) (a : α) : ∀ xs : List α, ((xs.map p.py).any fun z => PyData.eqv z (p.py a)) = decide (a ∈ xs)
  | [] => by simp
  | x :: xs => by
    rw [List.map_cons, List.any_cons, any_eqv p a xs, p.eqv, Bool.eq_iff_iff]
    simp only [Bool.or_eq_true, decide_eq_true_eq, List.mem_cons]
    constructor
    · rintro (h | h)
      · exact .inl h.symm
      · exact .inr h
    · rintro (h | h)
      · exact .inl h.symm
      · exact .inr h
/-- is it in the list? their texts must be texts -/
def pinL {α : Type} [DecidableEq α] (ok : α → Bool) (a : α) (xs : List α) : Res Bool := guard (ok a = true ∧ xs.all ok = true) (decide (a ∈ xs))
theorem cellDp {e : α → Dat} [DecidableEq α] (p : PyE e) {K : PySem.W.Frag} {G H : Hp} {M : Mem} (hH : Hst K G M H) {d : Dat} {xs : List α} {v : V} (hl : LsD M d (xs.map e)) (dv : Den K G d v) : Dp K H v (.list (xs.map p.py)) := by
  rcases hl with rfl | ⟨q, rfl, hq⟩
  · exact toPy_dp hH.sub _ _ _ dv (by simp [toPy, toPyL_map p])
  · obtain ⟨vs, g, dl⟩ := hH.mem _ hq
    obtain rfl := dv.raw_inv
    exact .lst (SqL.of g) (toPyL_dp hH.sub _ _ _ dl (toPyL_map p xs))
theorem r_notInL {e : α → Dat} [DecidableEq α] (p : PyE e) {a : α} {d : Dat} {xs : List α} (hu : X.A.units + 65 < cLine) (hl : LsD M d (xs.map e)) {Q : Bool → Prop} (h : (pinL p.ok a xs).Out Q E1) (hk : ∀ z, Q z → P (.bl (!z)) M) (hd : p.dep ≤ 60 := by decide) : OP X T (compareOp .NotIn) (e a) d M P :=
  op_of (op_notInD hu) fun G H v u hH dx dy Q' hP => by
    have h2 := gd h
    refine ⟨p.py a, xs.map p.py, toPy_dp hH.sub _ _ _ dx (p.to a), cellDp p hH hl dy, p.shaped (by omega) h2.1.1, (pyL p).shaped (a := xs) (by show p.dep + 1 ≤ 64; omega) h2.1.2, ?_⟩
    rw [any_eqv]
    exact hP _ _ _ _ _ (hk _ h2.2) Stp.refl hH den_bl
end
end Kh

set_option Elab.async false
set_option linter.all false
set_option maxRecDepth 100000
set_option maxHeartbeats 1000000
namespace Kh
open PySem PySem.Spec L2
/-! ### new lists as cells: comprehensions, list(xs), xs[::-1] -/
theorem newC {K : PySem.W.Frag} {G H : Hp} {M : Mem} {p : Addr} {o : HO} {c : MC} (h : Hst K G M H) (hp : H p = none) (ha : adr1 (p, c) = [p]) (hm : MH K G (upd H p o) (p, c)) :
    Stp G M H G ((p, c) :: M) (upd H p o) ∧ Hst K G ((p, c) :: M) (upd H p o) := by
  have nM : p ∉ adr M := fun z => h.there p z hp
  have hadr : adr ((p, c) :: M) = p :: adr M := by show adr1 (p, c) ++ adr M = _; rw [ha]; rfl
  have kp : ∀ b u, H b = some u → (upd H p o) b = some u := fun b u e => by rw [upd_ne (ne_of_none e hp)]; exact e
  refine ⟨⟨Same.refl _, fun b u _ e => kp b u e, fun _ _ _ g => g, fun b hb => ?_⟩, ⟨fun b u e => kp b u (h.sub b u e), fun d hd => ?_, fun b hb => ?_, ?_⟩⟩
  · rw [hadr] at hb
    rcases List.mem_cons.mp hb with rfl | hb
    · exact .inr hp
    · exact .inl hb
  · rcases List.mem_cons.mp hd with rfl | hd
    · exact hm
    · exact (h.mem d hd).up (Same.refl _) fun b hb u e => kp b u e
  · rw [hadr] at hb
    rcases List.mem_cons.mp hb with rfl | hb
    · exact h.sub.free hp
    · exact h.out b hb
  · rw [hadr]; exact List.nodup_cons.mpr ⟨nM, h.nd⟩
section
variable {X : Cx} {T : Bool} {tg iter elt e a : Expr} {τ : TEnv} {M : Mem} {E : XKx} {pos p p1 p2 p3 : Pos} {kk : Nat} {P : PK'} {α : Type} {E1 : Er → Prop}
theorem ex_lcC {scope : Scope} {ifs : List Expr} (own : List (Str × Nat)) (h : EI X tg iter τ M (fun ds M1 Ok => LcQ X scope (own.map (·.2)) tg ifs elt τ ds M1 Ok (cellP P)) E)
    (ok : BlkOk X.N X.env.scope scope own := by exact blkOk_by (by first | decide +kernel | kernel_rfl)) (hN : X.N.Nodup := by first | decide +kernel | exact of_decide_eq_true (by kernel_rfl)) (hc : X.calm = true := by rfl) (hs : ∀ x, foldedSetIterable iter X.env x = pure x := by intro _; rfl) :
    EX X T (.ListComp elt [⟨tg, iter, ifs, 0⟩] scope pos) τ M P E := .mk fun W tk σ G H hE hH Q hP hX =>
  tW_of (pe_lc hc hN pi_W ok pg_fam pt_fam pe_fam hs) (lc_readC (.mk fun W' tk' σ' G' H' hE' hH' R' hR' hX' => h.run W' tk' σ' G' H' hE' hH' R' (fun J ds M1 G1 H1 Ok ⟨hz, I, i1, i2, i3, i4⟩ => hR' J ds M1 G1 H1 Ok ⟨hz, I, i1, i2, i3, fun acc M hi q => i4 acc M hi acc rfl q⟩) hX') tk hE hH hP hX)
end
/-! the joining rules, whatever is wanted behind -/
section
variable {X : Cx} {T : Bool} {τ : TEnv} {M : Mem} {P : PK'} {E : XKx} {t e : Expr} {p q rest : List Stmt} {pos : Pos} {α σ : Type} {E1 : Er → Prop} {R : RK}
theorem exJQ {m : Res α} (f : α → Dat) {Q : α → Prop} (h : m.Out Q E1) (he : ∀ Q : α → Prop, m.Out Q E1 → EX X T e τ M (fun d M1 => M1 = M ∧ ∃ v, d = f v ∧ Q v) E) (hk : ∀ v, Q v → P (f v) M) : EX X T e τ M P E := exJ f h (he Q) hk
theorem etJQ {m : Res Bool} {Q : Bool → Prop} {Pb : Bool → Mem → Prop} (h : m.Out Q E1) (he : ∀ Q : Bool → Prop, m.Out Q E1 → ET X T e τ M (fun k M1 => M1 = M ∧ Q k) E) (hk : ∀ v, Q v → Pb v M) : ET X T e τ M Pb E := etJ h (he Q) hk
theorem ws_ifQ {m : Res σ} {Q : σ → Prop} (JJ : (σ → Prop) → TEnv → Mem → Prop) (h : m.Out Q E1)
    (hif : ∀ Q : σ → Prop, m.Out Q E1 → ET X T t τ M (fun k M1 => (k = true → WS X T p τ M1 (thenR (JJ Q) R)) ∧ (k = false → WS X T q τ M1 (thenR (JJ Q) R))) (fun x M1 => R (.ex x τ) M1))
    (hk : ∀ τ' M', JJ Q τ' M' → WS X T rest τ' M' R) : WS X T (.If t p q pos :: rest) τ M R := ws_ifJ JJ h (hif Q) hk
end
theorem ex_revLT {X : Cx} {T : Bool} {τ : TEnv} {M : Mem} {P : PK'} {E : XKx} {e : Expr} {pos p1 p2 p3 : Pos} {kk : Nat} {α : Type} (f : α → Dat) (h : EX X false e τ M (fun d M1 => ∃ xs : List α, LsD M1 d (xs.map f) ∧ P (lstD f xs.reverse) M1) E) : EX X T (.Subscript e (.Slice none none (some (.UnaryOp .USub (.Constant (.int 1) kk p1) p2)) p3) pos) τ M P E :=
  ex_revL (h.imp (fun d M1 ⟨xs, hl, hp⟩ => ⟨xs.map f, hl, by rw [← List.map_reverse]; exact hp⟩) fun _ _ x => x)
section
variable {α β γ : Type} {m : Res α} {Q S : α → Prop} {E1 : Er → Prop} {E : XKx} {M : Mem} {ex : Er → Exn}
/-- a value with new lists in it -/
theorem outG (h : m.Out Q E1) (hk : ∀ r, Q r → S r) (hx : ∀ x, E1 x → E (ex x) M) : m.Out S (fun x => UpP E (ex x) M) := out_mono h hk fun x z => UpP.mk (hx x z)
end
/-! ### == of data, a list's cell among them -/
section
variable {X : Cx} {T : Bool} {M : Mem} {P : PK'} {τ : Type} {E : τ → Dat} [DecidableEq τ] {E1 : Er → Prop} {da db : Dat}
end
/-- a field stored, the cell behind A -/
theorem ws_fldA {X : Cx} {T : Bool} {τ : TEnv} {M : Mem} {R : RK} {value o : Expr} {f : Str} {pos pos' : Pos} {rest : List Stmt} (h : EX X false value τ M (fun d M1 => EX X false o τ M1 (fun od M2 => ∃ q C dx fs fs' A B, M2 = A ++ (q, MC.ins C dx fs) :: B ∧ od = .raw (.ref q) ∧ Cls X.K C ∧ NoAttr X.K C f ∧ fs.length < 1000 ∧ putD f d fs = fs' ∧ WS X T rest τ (A ++ (q, .ins C dx fs') :: B) R) (fun x M2 => R (.ex x τ) M2)) (fun x M1 => R (.ex x τ) M1))
    (hs : swapsWith value (some (.Attribute o f pos')) pos.line X.env = pure false := by rfl) : WS X T (.Assign [.Attribute o f pos'] value pos :: rest) τ M R := .mk fun W tk σ G H hE hH D hR => by
  refine ws_step (ps_fld (pe_W (e := o)) (pe_W (e := value)) hs) ?_
  refine h.run W tk σ G H hE hH _ ?_ (ex_out hR hE)
  intro d M1 v G1 H1 ho s1 h1 dv
  refine ho.run W tk σ G1 H1 (hE.up s1.gg) h1 _ ?_ ((ex_out hR hE).step s1)
  rintro od M2 ov G2 H2 ⟨q, C, dx, fs, fs', A, B, rfl, rfl, hc, hn, hl, hf, hw⟩ s2 h2 dov
  subst hf
  obtain ⟨vs, g1, g2, g3⟩ := h2.mem _ (List.mem_append_right _ List.mem_cons_self)
  have hcell : MH X.K G2 (upd H2 q (.ins C dx (putF f v vs))) (q, .ins C dx (putD f d fs)) := by
    have ne : dx ≠ q := fun z => by rw [z, g1] at g2; cases g2
    exact ⟨_, upd_same, by rw [upd_ne ne]; exact g2, denF_put (dv.up s2.gg) g3⟩
  obtain ⟨s3, h3⟩ := hst_put (c' := .ins C dx (putD f d fs)) (H2 := upd H2 q (.ins C dx (putF f v vs))) h2 rfl (fun b hb => upd_ne hb) hcell
  exact ⟨q, C, dx, vs, dov.raw_inv, g1, hc, hn, by rw [g3.length]; exact hl, hw.run W tk σ G2 _ ((hE.up s1.gg).up s2.gg) h3 D (hR.step ((s1.trans s2).trans s3))⟩
/-- None is None; a list is no None -/
theorem o_isNN {X : Cx} {T : Bool} {M : Mem} {P : PK'} (h : P (.bl true) M) : OP X T (compareOp .Is) .non .non M P := o_isN (fun u => by simp) h
end Kh

set_option Elab.async false
set_option linter.all false
set_option maxRecDepth 100000
set_option maxHeartbeats 1000000
namespace Kh
open PySem PySem.Spec L2
/-! ### sorted(a list of ints) -/
section
variable {X : Cx} {M : Mem} {P : PK'} {E1 : Er → Prop}
end
end Kh

set_option Elab.async false
set_option linter.all false
set_option maxRecDepth 100000
set_option maxHeartbeats 1000000
namespace Kh
open PySem PySem.Spec L2
open PySem.W (EachIs dataLe AllAlike Sortable)
/-- what an option holds; nothing is told where it holds nothing -/
def punO {α : Type} : Option α → Res α
  | some a => .ok a
  | none => .bad
@[elab_as_elim] theorem punE {α β : Type} {k : α → Res β} {P : β → Prop} {E : Er → Prop} {motive : Option α → Prop} (o : Option α) (h : ((punO o).bind k).Out P E) (hk : ∀ a, (k a).Out P E → motive (some a)) : motive o := by
  cases o with
  | none => exact h.elim
  | some a => exact hk a h
@[simp] theorem punO_some {α : Type} {a : α} : punO (some a) = .ok a := rfl
/-! ### sorted(a list of data), any length -/
/-- data that sorts: all of one shape -/
structure PyS {α : Type} {e : α → Dat} [DecidableEq α] (p : PyE e) : Prop where
  al : ∀ a b, PySem.W.alike (p.py a) (p.py b) = true
  so : (∀ a, ∃ x r, p.py a = .tuple (x :: r)) ∨ ∀ a, p.py a ≠ .none ∧ ∀ xs, p.py a ≠ .tuple xs
theorem pysS : PyS pyS := ⟨fun a b => by simp [pyS, PySem.W.alike], .inr fun a => ⟨fun h => by simp [pyS] at h, fun xs h => by simp [pyS] at h⟩⟩
theorem pysI : PyS pyI := ⟨fun a b => by simp [pyI, PySem.W.alike], .inr fun a => ⟨fun h => by simp [pyI] at h, fun xs h => by simp [pyI] at h⟩⟩
theorem pys2 {α β : Type} {e : α → Dat} {f : β → Dat} [DecidableEq α] [DecidableEq β] {p : PyE e} {q : PyE f} (hp : PyS p) (hq : PyS q) : PyS (py2 p q) := ⟨fun a b => by
  simp only [py2, PySem.W.alike, PySem.W.alikeAll, Bool.and_eq_true]; exact ⟨hp.al _ _, hq.al _ _, trivial⟩, .inl fun a => ⟨_, _, rfl⟩⟩
def leD {α : Type} {e : α → Dat} [DecidableEq α] (p : PyE e) : α → α → Bool := dataLe false p.py
def psrtD {α : Type} {e : α → Dat} [DecidableEq α] (p : PyE e) (xs : List α) : Res (List α) := guard (xs.length ≤ sizeLine) (xs.mergeSort (leD p))
section
variable {X : Cx} {M : Mem} {P : PK'} {E1 : Er → Prop} {α : Type} {e : α → Dat} [DecidableEq α]
theorem each_den {K : PySem.W.Frag} {G : Hp} : ∀ {xs : List α} {ws : List V} {us : List Value}, DenL K G (xs.map e) ws → Vals ws us → EachIs (fun u b => ∃ x, RelV x u ∧ Den K G (e b) x) us xs
  | [], _, _, h, r => by
    rw [h.nil_inv] at r
    cases r
    exact .nil
  | x :: xs, _, _, h, r => by
    obtain ⟨v, ws, rfl, h1, h2⟩ := h.cons_inv
    cases r with
    | cons r1 r2 => exact .cons ⟨v, r1, h1⟩ (each_den h2 r2)
theorem den_each {K : PySem.W.Frag} {G : Hp} : ∀ {xs : List α} {us : List Value}, EachIs (fun u b => ∃ x, RelV x u ∧ Den K G (e b) x) us xs → ∃ ws, Vals ws us ∧ DenL K G (xs.map e) ws
  | [], _, h => by cases h; exact ⟨[], .nil, .nil⟩
  | x :: xs, _, h => by
    cases h with
    | cons h1 h2 =>
      obtain ⟨v, r, d⟩ := h1
      obtain ⟨ws, rs, ds⟩ := den_each h2
      exact ⟨v :: ws, .cons r rs, .cons d ds⟩
theorem each_reads {K : PySem.W.Frag} {G : Hp} {R : Value → α → Prop} : ∀ {xs : List α} {us : List Value}, EachIs (fun u b => ∃ x, RelV x u ∧ Den K G (e b) x) us xs → (∀ u b, (∃ x, RelV x u ∧ Den K G (e b) x) → R u b) → EachIs R us xs
  | [], _, h, _ => by cases h; exact .nil
  | x :: xs, _, h, f => by
    cases h with
    | cons h1 h2 => exact .cons (f _ _ h1) (each_reads h2 f)
def rSortD (K : PySem.W.Frag) (p : PyE e) : List V → Hp → VK → Prop := fun vs H Q => ∃ (a : Addr) (ws : List V) (G : Hp) (xs : List α), vs = [.ref a] ∧ SqL K H a ws ∧ Same G H ∧ DenL K G (xs.map e) ws ∧
  ∀ ws' q, H q = none → DenL K G ((xs.mergeSort (leD p)).map e) ws' → Q (.ref q) (upd H q (.lst ws'))
theorem cr_sortD (p : PyE e) (hs : PyS p) (hd : p.dep ≤ 60) (hu : X.A.units + 64 < cLine) : CallR X (.builtin "sorted") (rSortD X.K p) := by
  intro pins s σ H vs us Q I r h
  obtain ⟨a, ws, G, xs, rfl, hq, sm, dl, q⟩ := h
  obtain ⟨its, rv, hl, hz⟩ := I.list hq
  rw [Vals.ref1 r]
  have en := each_den dl rv
  have hlen : its.length = xs.length := by rw [← rv.length, dl.length, List.length_map]
  refine PySem.W.sorted_data (vs := its) (bs := xs) (enc := p.py) (R := fun u b => ∃ x, RelV x u ∧ Den X.K G (e b) x) hl.isList en (each_reads en fun u b ⟨x, rx, dx⟩ => Dp.reads I (p.py b) x u (toPy_dp sm _ _ _ dx (p.to b)) rx) ?_ ?_ (by rw [← hlen, ← rv.length]; exact hz) (fun b _ => by have := p.dp b; omega) fun out ho eo => ?_
  · intro d hd d' hd'
    obtain ⟨b, _, rfl⟩ := List.mem_map.mp hd
    obtain ⟨b', _, rfl⟩ := List.mem_map.mp hd'
    exact hs.al b b'
  · rcases hs.so with h | h
    · exact .inl fun d hd => by
        obtain ⟨b, _, rfl⟩ := List.mem_map.mp hd
        exact h b
    · exact .inr fun d hd => by
        obtain ⟨b, _, rfl⟩ := List.mem_map.mp hd
        exact h b
  · obtain ⟨ws', rs, ds⟩ := den_each eo
    obtain ⟨ep, he'⟩ := PyProof.Rows.sortedAll_at s.heap its out.toArray
    have hz' : ws'.length ≤ sizeLine := by rw [rs.length, ho, ← hlen, ← rv.length]; exact hz
    exact ⟨.ref _, upd H (s.heap.objs.size + 1) (.lst ws'), I.laid (t' := s.toks) (fun _ _ => PyProof.Rows.sortedAll_old) (Nat.le_succ _) ⟨hz', out, ep, rs, he'⟩, rfl, q _ _ (I.hok.fresh (Nat.le_succ _)) ds⟩
theorem c_sortD (p : PyE e) (hs : PyS p) {d : Dat} {xs : List α} (l : LsD M d (xs.map e)) (hu : X.A.units + 64 < cLine) {Q : List α → Prop} (h : (psrtD p xs).Out Q E1) (hk : ∀ z, Q z → P (lstD e z) M) (hd : p.dep ≤ 60 := by decide) : BC X (.builtin "sorted") [d] M P := bc_of (cr_sortD p hs hd hu) fun G H vs hH dv Q' hP => by
  obtain ⟨v, rfl, dd⟩ := one_inv dv
  obtain ⟨c, us, rfl, g, dl⟩ := l.get hH dd
  refine ⟨c, us, G, xs, rfl, SqL.of g, hH.sub, dl, fun ws' r hr dl' => ?_⟩
  obtain ⟨s2, h2⟩ := Stp.new (o := .lst ws') hH hr
  exact hP _ _ _ _ _ (hk _ (gd h).2) s2 h2 (den_lst upd_same (dl'.up s2.gg))
end
/-! ### dicts by texts that change -/
def dicD {β : Type} (f : β → Dat) (ds : List (Str × β)) : List (Key × Dat) := ds.map fun p => (.inr p.1, f p.2)
def dget {β : Type} (ds : List (Str × β)) (k : Str) : Option β := (ds.find? fun p => decide (p.1 = k)).map (·.2)
def dput {β : Type} (ds : List (Str × β)) (k : Str) (v : β) : List (Str × β) := if (dget ds k).isSome then ds.map fun p => if p.1 = k then (p.1, v) else p else ds ++ [(k, v)]
theorem dic_get {K : PySem.W.Frag} {G : Hp} {β : Type} {f : β → Dat} {k : Str} : ∀ {ds : List (Str × β)} {vs : List (Key × V)}, DenF K G (dicD f ds) vs → match dget ds k with
    | none => valV vs (.inr k) = none
    | some x => ∃ v, valV vs (.inr k) = some v ∧ Den K G (f x) v
  | [], vs, h => by
    have : vs = [] := by simpa [dicD] using h.1
    subst this; rfl
  | (a, x) :: ds, vs, h => by
    obtain ⟨h1, h2⟩ := h
    cases vs with
    | nil => simp [dicD] at h1
    | cons w vs =>
      have e1 : w.1 = .inr a := by simp [dicD] at h1; exact h1.1
      have h1' : vs.map (·.1) = (dicD f ds).map (·.1) := by simp [dicD] at h1 ⊢; exact h1.2
      obtain ⟨v, r, ev, d1, d2⟩ := h2.cons_inv
      simp only [List.map_cons, List.cons.injEq] at ev
      obtain ⟨ev1, ev2⟩ := ev
      rw [← ev2] at d2
      by_cases e : a = k
      · subst e
        have : dget ((a, x) :: ds) a = some x := by simp [dget]
        rw [this]
        exact ⟨w.2, valV_pos e1, by rw [ev1]; exact d1⟩
      · have : dget ((a, x) :: ds) k = dget ds k := by simp [dget, List.find?_cons, e]
        rw [this]
        have n1 : ¬ w.1 = .inr k := by rw [e1]; intro z; injection z with z; exact e z
        rw [valV_neg n1]
        exact dic_get ⟨h1', d2⟩
theorem denF_len {K : PySem.W.Frag} {G : Hp} {κ : Type} {fs : List (κ × Dat)} {vs : List (κ × V)} (h : DenF K G fs vs) : vs.length = fs.length := by
  have := congrArg List.length h.1
  simpa using this
/-- a key put into a dict -/
def putKD (kvs : List (Key × Dat)) (k : Key) (d : Dat) : List (Key × Dat) := if (kvs.any fun kv => decide (kv.1 = k)) then kvs.map fun kv => if kv.1 = k then (kv.1, d) else kv else kvs ++ [(k, d)]
theorem denF_any {K : PySem.W.Frag} {G : Hp} {k : Key} : ∀ {fs : List (Key × Dat)} {vs : List (Key × V)}, DenF K G fs vs → (fs.any fun kv => decide (kv.1 = k)) = vs.any fun kv => decide (kv.1 = k)
  | [], vs, h => by
    have : vs = [] := by simpa using h.1
    subst this; rfl
  | f :: fs, vs, h => by
    obtain ⟨h1, h2⟩ := h
    cases vs with
    | nil => simp at h1
    | cons w vs =>
      obtain ⟨v, r, ev, d1, d2⟩ := h2.cons_inv
      simp only [List.map_cons, List.cons.injEq] at h1 ev
      rw [List.any_cons, List.any_cons, h1.1, denF_any (k := k) (fs := fs) (vs := vs) ⟨h1.2, by rw [ev.2]; exact d2⟩]
theorem denF_putK {K : PySem.W.Frag} {G : Hp} {k : Key} {d : Dat} {v : V} (dv : Den K G d v) {fs : List (Key × Dat)} {vs : List (Key × V)} (h : DenF K G fs vs) : DenF K G (putKD fs k d) (putK vs k v) := by
  have repl : ∀ {fs : List (Key × Dat)} {vs : List (Key × V)}, DenF K G fs vs → DenF K G (fs.map fun kv => if kv.1 = k then (kv.1, d) else kv) (vs.map fun kv => if kv.1 = k then (kv.1, v) else kv) := by
    intro fs
    induction fs with
    | nil =>
      intro vs h
      have : vs = [] := by simpa using h.1
      subst this; exact ⟨rfl, .nil⟩
    | cons f fs ih =>
      intro vs h
      obtain ⟨h1, h2⟩ := h
      cases vs with
      | nil => simp at h1
      | cons w vs =>
        obtain ⟨u, r, ev, d1, d2⟩ := h2.cons_inv
        simp only [List.map_cons, List.cons.injEq] at h1 ev
        obtain ⟨i1, i2⟩ := ih ⟨h1.2, by rw [ev.2]; exact d2⟩
        by_cases e : f.1 = k
        · have e' : w.1 = k := by rw [h1.1]; exact e
          refine ⟨?_, ?_⟩
          · simp only [List.map_cons, if_pos e, if_pos e', List.cons.injEq]; exact ⟨h1.1, i1⟩
          · simp only [List.map_cons, if_pos e, if_pos e']; exact .cons dv i2
        · have e' : ¬ w.1 = k := by rw [h1.1]; exact e
          refine ⟨?_, ?_⟩
          · simp only [List.map_cons, if_neg e, if_neg e', List.cons.injEq]; exact ⟨h1.1, i1⟩
          · simp only [List.map_cons, if_neg e, if_neg e']; exact .cons (by rw [ev.1]; exact d1) i2
  unfold putKD putK
  rw [denF_any h]
  split
  · exact repl h
  · refine ⟨?_, ?_⟩
    · simp only [List.map_append, h.1]; rfl
    · simp only [List.map_append]; exact h.2.append (.cons dv .nil)
theorem putKD_dic {β : Type} {f : β → Dat} {k : Str} {v : β} : ∀ {ds : List (Str × β)}, putKD (dicD f ds) (.inr k) (f v) = dicD f (dput ds k v) := by
  intro ds
  have ha : (dicD f ds).any (fun kv => decide (kv.1 = .inr k)) = (dget ds k).isSome := by
    unfold dget
    induction ds with
    | nil => rfl
    | cons p ds ih =>
      have ih : (dicD f ds).any (fun kv => decide (kv.1 = .inr k)) = ((ds.find? fun p => decide (p.1 = k)).map (·.2)).isSome := ih
      show (decide ((Sum.inr p.1 : Key) = .inr k) || (dicD f ds).any fun kv => decide (kv.1 = .inr k)) = _
      rw [ih, List.find?_cons]
      by_cases e : p.1 = k
      · rw [decide_eq_true (by rw [e]), decide_eq_true e]; rfl
      · rw [decide_eq_false (fun z => e (by injection z)), decide_eq_false e]; rfl
  unfold putKD dput
  rw [ha]
  split
  · unfold dicD
    rw [List.map_map, List.map_map]
    refine List.map_congr_left fun p _ => ?_
    show (if (Sum.inr p.1 : Key) = .inr k then _ else _) = _
    by_cases e : p.1 = k
    · rw [if_pos (by rw [e])]; simp [e]
    · rw [if_neg (fun z => e (by injection z))]; simp [e]
  · unfold dicD; simp
section
variable {X : Cx} {T : Bool} {τ : TEnv} {M : Mem} {P : PK'} {E : XKx} {e o i value : Expr} {rest : List Stmt} {R : RK} {pos p pos' cpos apos tpos : Pos} {E1 : Er → Prop} {β : Type}
/-- {} as a cell -/
theorem ex_dicC (h : ∀ q, P (.raw (.ref q)) ((q, .dic []) :: M)) : EX X T (.Dict [] [] pos) τ M P E := .mk fun W tk σ G H hE hH Q hP hX => tW_of pe_dnewK fun p hp => by
  obtain ⟨s2, h2⟩ := newC (o := .dK []) (c := .dic []) hH hp rfl ⟨[], upd_same, rfl, .nil⟩
  exact hP _ _ _ _ _ (h p) s2 h2 den_raw
/-- in a dict -/
def rDN : R2 := fun x y H Q => ∃ a o, y = .ref a ∧ DGet H a x o ∧ Q (.bl (!o.isSome)) H
theorem op_DN (hu : X.A.units + 1 < cLine) : OpR X (compareOp .NotIn) rDN := by
  intro pins s σ H x y v u Q I rx ry h
  obtain ⟨a, o, rfl, g, q⟩ := h
  obtain rfl : u = Value.ref a := ry
  exact d_notIn hu I g rx fun s3 I3 => ⟨.bl (!o.isSome), H, I3, rfl, q⟩
theorem valV_some {K : PySem.W.Frag} {G : Hp} {f : β → Dat} {k : Str} {ds : List (Str × β)} {vs : List (Key × V)} (h : DenF K G (dicD f ds) vs) : (valV vs (.inr k)).isSome = (dget ds k).isSome := by
  have := dic_get (k := k) h
  cases e : dget ds k with
  | none => rw [e] at this; simp only at this; rw [this]; rfl
  | some x => rw [e] at this; obtain ⟨v, e2, _⟩ := this; rw [e2]; rfl
theorem o_notInDic (f : β → Dat) {ds : List (Str × β)} {k : Str} {q : Addr} (hu : X.A.units + 64 < cLine) (hm : (q, MC.dic (dicD f ds)) ∈ M) (h : P (.bl (!(dget ds k).isSome)) M) : OP X T (compareOp .NotIn) (.str k) (.raw (.ref q)) M P :=
  op_of (op_DN (by omega)) fun G H v u hH dx dy Q hP => by
    obtain ⟨vs, g, df⟩ := hH.mem _ hm
    obtain rfl := dx.str_inv
    obtain rfl := dy.raw_inv
    refine ⟨q, _, rfl, DGet.k (k := .inr k) g, ?_⟩
    rw [valV_some df]
    exact hP _ _ _ _ _ h Stp.refl hH den_bl
/-- d[k] = v -/
def pdput (ds : List (Str × β)) (k : Str) (v : β) : Res (List (Str × β)) := guard (ds.length < sizeLine) (dput ds k v)
theorem ws_dput (f : β → Dat) (hu : X.A.units + 64 < cLine) (h : EX X false value τ M (fun d M1 => EX X false o τ M1 (fun od M2 => EX X false i τ M2 (fun id M3 => ∃ (q : Addr) (ds : List (Str × β)) (k : Str) (v : β) (A B : Mem) (Q : List (Str × β) → Prop) (E1 : Er → Prop), d = f v ∧ od = .raw (.ref q) ∧ id = .str k ∧ M3 = A ++ (q, MC.dic (dicD f ds)) :: B ∧ (pdput ds k v).Out Q E1 ∧
      ∀ ds', Q ds' → WS X T rest τ (A ++ (q, .dic (dicD f ds')) :: B) R) (fun x M2 => R (.ex x τ) M2)) (fun x M2 => R (.ex x τ) M2)) (fun x M1 => R (.ex x τ) M1))
    (hs : swapsWith value (some (.Subscript o i pos')) pos.line X.env = pure false := by rfl) : WS X T (.Assign [.Subscript o i pos'] value pos :: rest) τ M R := .mk fun W tk σ G H hE hH D hR => by
  refine ws_step (ps_dput (by omega : X.A.units + 1 < cLine) (pe_W (e := o)) (pe_W (e := i)) (pe_W (e := value)) hs) ?_
  refine h.run W tk σ G H hE hH _ ?_ (ex_out hR hE)
  intro d M1 v G1 H1 ho s1 h1 dv
  refine ho.run W tk σ G1 H1 (hE.up s1.gg) h1 _ ?_ ((ex_out hR hE).step s1)
  intro od M2 ov G2 H2 hi s2 h2 dov
  refine hi.run W tk σ G2 H2 ((hE.up s1.gg).up s2.gg) h2 _ ?_ (((ex_out hR hE).step s1).step s2)
  rintro id M3 iv G3 H3 ⟨q, ds, k, x, A, B, Q, E1, rfl, rfl, rfl, rfl, hg, hw⟩ s3 h3 div
  obtain ⟨vs, g, df⟩ := h3.mem _ (List.mem_append_right _ List.mem_cons_self)
  have hl := (gd hg).1
  have dv3 := (dv.up s2.gg).up s3.gg
  have hcell : MH X.K G3 (upd H3 q (.dK (putK vs (.inr k) v))) (q, .dic (dicD f (dput ds k x))) := ⟨_, upd_same, by rw [← putKD_dic]; exact denF_putK dv3 df⟩
  obtain ⟨s4, h4⟩ := hst_put (c' := .dic (dicD f (dput ds k x))) (H2 := upd H3 q (.dK (putK vs (.inr k) v))) h3 rfl (fun b hb => upd_ne hb) hcell
  refine ⟨q, upd H3 q (.dK (putK vs (.inr k) v)), (dov.up s3.gg).raw_inv, ?_, (hw _ (gd hg).2).run W tk σ G3 _ (((hE.up s1.gg).up s2.gg).up s3.gg) h4 D (hR.step (((s1.trans s2).trans s3).trans s4))⟩
  rw [div.str_inv]
  exact DPut.k (k := .inr k) g (by rw [denF_len df]; unfold dicD; rw [List.length_map]; exact hl)
/-- a dict that is changed no more, walked by its items -/
theorem lockD {K : PySem.W.Frag} {G H : Hp} {A B : Mem} {q : Addr} {kvs : List (Key × Dat)} {vs : List (Key × V)} {od : Obj} (h : Hst K G (A ++ (q, .dic kvs) :: B) H) (g : H q = some (.dK vs)) :
    Stp G (A ++ (q, .dic kvs) :: B) H (upd G q (.frz od (.dK vs))) (A ++ B) (upd H q (.frz od (.dK vs))) ∧ Hst K (upd G q (.frz od (.dK vs))) (A ++ B) (upd H q (.frz od (.dK vs))) := by
  have hq : q ∈ adr (A ++ (q, .dic kvs) :: B) := List.mem_flatMap.mpr ⟨_, List.mem_append_right _ List.mem_cons_self, List.mem_cons_self⟩
  have gq : G q = none := h.out q hq
  have had : adr (A ++ (q, .dic kvs) :: B) = adr A ++ q :: adr B := by simp [adr, adr1]
  have had2 : adr (A ++ B) = adr A ++ adr B := by simp [adr]
  have nd := h.nd
  rw [had] at nd
  have nq : q ∉ adr (A ++ B) := by
    rw [had2]
    have := (List.perm_middle (l₁ := adr A) (a := q) (l₂ := adr B)).nodup_iff.mp nd
    exact (List.nodup_cons.mp this).1
  have sub : ∀ b ∈ adr (A ++ B), b ∈ adr (A ++ (q, .dic kvs) :: B) := fun b hb => by
    rw [had2] at hb
    rw [had]
    rcases List.mem_append.mp hb with h | h
    · exact List.mem_append_left _ h
    · exact List.mem_append_right _ (List.mem_cons_of_mem _ h)
  refine ⟨⟨fun b o e => ?_, fun b o n e => ?_, fun b hb n gb => ?_, fun b hb => .inl (sub b hb)⟩, ⟨fun b o e => ?_, fun c hc => ?_, fun b hb => ?_, ?_⟩⟩
  · rw [upd_ne (fun z => by rw [z, gq] at e; cases e)]; exact e
  · rw [upd_ne (fun z => n (by rw [z]; exact hq))]; exact e
  · rw [upd_ne (fun z => n (by rw [z]; exact hq))]; exact gb
  · by_cases z : b = q
    · subst z; rw [upd_same] at e ⊢; exact e
    · rw [upd_ne z] at e ⊢; exact h.sub b o e
  · have hc' : c ∈ A ++ (q, .dic kvs) :: B := by
      rcases List.mem_append.mp hc with h | h
      · exact List.mem_append_left _ h
      · exact List.mem_append_right _ (List.mem_cons_of_mem _ h)
    refine (h.mem c hc').up (fun b o e => ?_) fun b hb o e => ?_
    · rw [upd_ne (fun z => by rw [z, gq] at e; cases e)]; exact e
    · rw [upd_ne (fun z => nq (by rw [← z]; exact List.mem_flatMap.mpr ⟨c, hc, hb⟩))]; exact e
  · rw [upd_ne (fun z => nq (by rw [← z]; exact hb))]
    exact h.out b (sub b hb)
  · rw [had2]
    have := (List.perm_middle (l₁ := adr A) (a := q) (l₂ := adr B)).nodup_iff.mp nd
    exact (List.nodup_cons.mp this).2
theorem walkD_items {K : PySem.W.Frag} {G1 : Hp} {f : β → Dat} {ds : List (Str × β)} {vs : List (Key × V)} {q : Addr} {od : Obj} (hq : G1 q = some (.frz od (.dK vs))) (hd : DenF K G1 (dicD f ds) vs) : WalkD K (Iti q od vs) (ds.map (pairD Dat.str f)) G1 anyM := fun G2 M2 H2 s h _ => by
  have hq2 : H2 q = some (.frz od (.dK vs)) := h.sub _ _ (s _ _ hq)
  have hl : vs.length = ds.length := by rw [denF_len hd]; unfold dicD; rw [List.length_map]
  rw [List.length_map]
  refine ⟨fun i hi => ⟨hq2, by omega⟩, ⟨hq2, by omega⟩, fun i x H' hi y => ?_⟩
  obtain ⟨T, k, v, e, rfl, hT, rfl⟩ := y
  obtain ⟨s3, h3⟩ := Stp.new (o := .tup [kV k, v]) h hT
  refine ⟨_, s3, h3, fun d hd' => ?_⟩
  rw [List.getElem?_map] at hd'
  obtain ⟨p, hp, rfl⟩ := Option.map_eq_some_iff.mp hd'
  have hk : k = .inr p.1 := by
    have h1 := congrArg (fun l => l[i]?) hd.1
    simp only [List.getElem?_map, e, dicD, hp, Option.map_some] at h1
    exact Option.some.inj h1
  have hv : Den K G1 (f p.2) v := by
    obtain ⟨u, u1, u2⟩ := hd.2.get (i := i) (d := f p.2) (by simp [dicD, hp])
    rw [List.getElem?_map, e] at u1
    cases u1
    exact u2
  subst hk
  exact den_tup upd_same (.cons den_str (.cons ((hv.up s).up s3.gg) .nil))
/-- a dict told by an expression, locked -/
theorem pe_lock : PE X e (fun σ H Q => tW X false e σ H fun x H1 => ∃ q vs, x = .ref q ∧ H1 q = some (.dK vs) ∧ ∀ od, Q x (upd H1 q (.frz od (.dK vs)))) := ⟨fun pins s σ H Q I h => thn (h pins s tk_f I) fun v s1 ⟨x, H1, I1, r1, q, vs, ex, g, k⟩ => by
  obtain ⟨od, I2⟩ := I1.lock g trivial
  exact ⟨x, _, I2, r1, k od⟩⟩
theorem ei_items {elts : List Expr} {kk : Nat} {PI' : List Dat → Mem → (Mem → Prop) → Prop} (f : β → Dat) (h : EX X false e τ M (fun d M1 => ∃ (q : Addr) (ds : List (Str × β)) (A B : Mem), d = .raw (.ref q) ∧ M1 = A ++ (q, MC.dic (dicD f ds)) :: B ∧ PI' (ds.map (pairD Dat.str f)) (A ++ B) anyM) E) (hbase : attributeBase e "items" X.env (eval e X.env) = eval e X.env := by rfl) (hline : (apos.endLine == cpos.line) = true := by rfl) :
    EI X (.Tuple elts kk tpos) (.Call (.Attribute e "items" apos) [] [] cpos) τ M PI' E := .mk fun W tk σ G H hE hH R hR hX => by
  refine tWI_of (pi_items pe_lock hbase hline) ?_
  refine h.run W tk σ G H hE hH _ (fun d M1 v G1 H1 ⟨q, ds, A, B, ed, em, hp⟩ s1 h1 dv => ?_) hX
  subst ed em
  obtain ⟨vs, g, df⟩ := h1.mem _ (List.mem_append_right _ List.mem_cons_self)
  refine ⟨q, vs, dv.raw_inv, g, fun od => ?_⟩
  obtain ⟨s2, h2⟩ := lockD (od := od) h1 g
  exact ⟨q, od, vs, dv.raw_inv, upd_same, hR _ _ _ _ _ _ hp (s1.trans s2) h2 (walkD_items upd_same (df.up s2.gg))⟩
end
theorem un65 {k : Nat} {A : Around} (r : Room k A) : A.units + 65 < cLine := by have := r.un; omega
/-! ### x += e, x -= e of ints -/
section
variable {X : Cx} {T : Bool} {τ : TEnv} {M : Mem} {e : Expr} {rest : List Stmt} {R : RK} {pos p : Pos} {x : Str} {i : Int}
theorem ws_augAdd (h0 : τ[ixIn X.N x]? = some (some (.int i))) (h : EX X false e τ M (fun d M1 => ∃ j, d = .int j ∧ WS X T rest (τ.set (ixIn X.N x) (some (.int (i + j)))) M1 R) (fun x M1 => R (.ex x τ) M1))
    (hi : X.N[ixIn X.N x]? = some x := by rfl) (hx : Loc X.env.scope x := by first | exact Or.inl rfl | exact Or.inr rfl) (hN : X.N.Nodup := by first | decide +kernel | exact of_decide_eq_true (by kernel_rfl)) (hf : X.fn x = true ∨ X.env.scope.names.lookup x = some .local := by first | exact .inl rfl | exact .inr rfl | assumption) :
    WS X T (.AugAssign (.Name x p) .Add e pos :: rest) τ M R := .mk fun W tk σ G H hE hH D hR => tWSs_len fun hl => by
  refine ws_step (ps_aug hN hi hx pe_W iop_add hf) ?_
  obtain ⟨v, e1, d1⟩ := hE _ _ h0
  refine ⟨v, e1, ?_⟩
  refine h.run W tk σ G H hE hH _ (fun d M2 u G2 H2 ⟨j, ed, r⟩ s h2 dv => ?_) (ex_out hR hE)
  subst ed
  have hlt : ixIn X.N x < σ.length := by rw [hl]; exact (List.getElem?_eq_some_iff.mp hi).1
  exact ⟨i, j, d1.int_inv, dv.int_inv, r.run W tk _ G2 H2 ((hE.up s.gg).set hlt den_int) h2 D (hR.step s)⟩
theorem ws_augSub (h0 : τ[ixIn X.N x]? = some (some (.int i))) (h : EX X false e τ M (fun d M1 => ∃ j, d = .int j ∧ WS X T rest (τ.set (ixIn X.N x) (some (.int (i - j)))) M1 R) (fun x M1 => R (.ex x τ) M1))
    (hi : X.N[ixIn X.N x]? = some x := by rfl) (hx : Loc X.env.scope x := by first | exact Or.inl rfl | exact Or.inr rfl) (hN : X.N.Nodup := by first | decide +kernel | exact of_decide_eq_true (by kernel_rfl)) (hf : X.fn x = true ∨ X.env.scope.names.lookup x = some .local := by first | exact .inl rfl | exact .inr rfl | assumption) :
    WS X T (.AugAssign (.Name x p) .Sub e pos :: rest) τ M R := .mk fun W tk σ G H hE hH D hR => tWSs_len fun hl => by
  refine ws_step (ps_aug hN hi hx pe_W iop_sub hf) ?_
  obtain ⟨v, e1, d1⟩ := hE _ _ h0
  refine ⟨v, e1, ?_⟩
  refine h.run W tk σ G H hE hH _ (fun d M2 u G2 H2 ⟨j, ed, r⟩ s h2 dv => ?_) (ex_out hR hE)
  subst ed
  have hlt : ixIn X.N x < σ.length := by rw [hl]; exact (List.getElem?_eq_some_iff.mp hi).1
  exact ⟨i, j, d1.int_inv, dv.int_inv, r.run W tk _ G2 H2 ((hE.up s.gg).set hlt den_int) h2 D (hR.step s)⟩
end
end Kh

set_option Elab.async false
set_option linter.all false
set_option maxRecDepth 100000
set_option maxHeartbeats 1000000
namespace Kh
open PySem PySem.Spec L2
/-! ### list(range(a, b)), len(set(ints)) -/
section
variable {X : Cx} {T : Bool} {τ : TEnv} {M : Mem} {P : PK'} {E : XKx} {e a b : Expr} {pos p p1 p2 p3 q : Pos} {E1 : Er → Prop}
end
end Kh

set_option Elab.async false
set_option linter.all false
set_option maxRecDepth 100000
set_option maxHeartbeats 4000000
namespace Kh
open PySem PySem.Spec PyProof.Rows L2
/-! ### sorted(set(ints)): a set of a list's ints, as HandS.SetFor has it of a tuple's -/
/-- the set that set() makes -/
abbrev eS (w : World) : Obj := { cls := .type "set", dict := none, data := .set #[] 0 (.fresh 0 0 (!w.params.followText "set-order")) }
/-- the heap behind it -/
abbrev hS (w : World) (h : Heap) : Heap := h.push (eS w)
/-- what the set is when all of them are in -/
abbrev FullS (w : World) (h0 h' : Heap) (ns : List Int) (c : Nat) : Prop := SetR w h' h0.objs.size (fun j => decide (j ∈ ns)) c ∧ c ≤ ns.length ∧ ∀ b o, h0.get? b = some o → h'.get? b = some o
section
variable {P : Program} {w : World} {A : Around} {E : Value → Shared → Prop} {s : Shared}
theorem old_ne {h : Heap} {b : Addr} {o : Obj} (e : h.get? b = some o) : b ≠ h.objs.size ∧ b ≠ (hS w h).objs.size := by
  have hb := Heap.lt_size e
  refine ⟨Nat.ne_of_lt hb, ?_⟩
  show b ≠ (h.push (eS w)).objs.size
  rw [Heap.size_push]
  exact Nat.ne_of_lt (Nat.lt_succ_of_lt hb)
theorem upd_list {l : Addr} {items : Array Value} {ns : List Int} (hh : A.in1.handled = none) (hl : s.heap.IsList l items) (hit : IntsAre items.toList ns) (hb : ns.length + 1 < scanBound) {R : Result → Shared → Prop}
    (hR : ∀ h' tk c, FullS w s.heap h' ns c → R (.ok (.ret .none)) { s with heap := h', toks := tk }) :
    codeAny (model P w) A (.builtin "set.update.loop" ⟨[.ref s.heap.objs.size, .ref (hS w s.heap).objs.size], []⟩) R { s with heap := (hS w s.heap).push { cls := .type "list_iterator", data := .fields #[.ref l, .int 0 0] } } := by
  have hn : items.size = ns.length := by rw [← Array.length_toList]; exact IntsAre.length hit
  have hlo : ∃ o, s.heap.get? l = some o := by obtain ⟨o, ho, _⟩ := hl; exact ⟨o, ho⟩
  obtain ⟨o0, ho0⟩ := hlo
  obtain ⟨n1, n2⟩ := old_ne (w := w) ho0
  have out : s.heap.objs.size ∉ [(hS w s.heap).objs.size, l] := by
    intro z
    rcases List.mem_cons.mp z with z | z
    · have : (hS w s.heap).objs.size = s.heap.objs.size + 1 := Heap.size_push ..
      omega
    · exact n1 (List.mem_singleton.mp z).symm
  have vals : ∀ (i : Nat) (v : Value), items[i]? = some v → ∃ k t, ns[i]? = some k ∧ v = .int k t := by
    intro i v hv
    have hi : i < ns.length := by rw [← hn]; exact (Array.getElem?_eq_some_iff.mp hv).1
    obtain ⟨t, e⟩ := IntsAre.int_at hit i v (by rw [Array.getElem?_toList]; exact hv)
    refine ⟨ns[i], t, List.getElem?_eq_getElem hi, ?_⟩
    rw [e]; simp [hi]
  have hl1 : (hS w s.heap).IsList l items := hl.push _
  refine set_update_ints ((Walks.list hh _ l n2 items).toS) s.heap.objs.size out ns hn hb vals items.size 0 _ (by omega) (Nat.zero_le _) ⟨⟨_, Heap.get?_push_size _ rfl, rfl, rfl⟩, hl1.push _⟩ ⟨0, Nat.le_refl 0, setR_new_at (Heap.get?_push_of_some _ (Heap.get?_push_size _ rfl))⟩ ?_
  intro s' c' hm hc' hS'
  obtain ⟨h', g2, d', tk', os'⟩ := s'
  obtain rfl : g2 = s.gens := hm.gens
  obtain rfl : d' = s.drawn := hm.drawn
  obtain rfl : os' = s.os := hm.os
  refine hR h' tk' c' ⟨hS', by omega, fun b o e => ?_⟩
  obtain ⟨m1, m2⟩ := old_ne (w := w) e
  refine hm.heap b o (fun z => ?_) (Heap.get?_push_of_some _ (Heap.get?_push_of_some _ e))
  rcases List.mem_cons.mp z with z | z
  · exact m1 z
  · exact m2 (List.mem_singleton.mp z)
/-- set.__init__ of a list -/
theorem init_list {l : Addr} {items : Array Value} {ns : List Int} (hh : A.handled = none) (hl : s.heap.IsList l items) (hit : IntsAre items.toList ns) (hb : ns.length + 1 < scanBound) :
    codeAny (model P w) A (.call (.builtin "set.__init__") ⟨[.ref s.heap.objs.size, .ref l], []⟩) (wants (fun r s2 => r = .none ∧ ∃ h' tk c, s2 = { s with heap := h', toks := tk } ∧ FullS w s.heap h' ns c) E) { s with heap := hS w s.heap } := by
  have tS : Shared.TypeIs { s with heap := hS w s.heap } (.ref s.heap.objs.size) "set" := ⟨_, Heap.get?_push_size _ rfl, rfl⟩
  refine codeAny_call_builtin F.called_set.init.plain F.entry_set_init (check_set_init_1 tS ?_)
  · obtain ⟨⟨cl, di, da, sl⟩, ho, e1, nn, e2⟩ := hl
    simp only at e1 e2
    subst e1; subst e2
    have ho1 : (hS w s.heap).get? l = some { cls := .type "list", dict := di, data := .seq items nn, slots := sl } := Heap.get?_push_of_some _ ho
    have q1 := F.sub_list_set
    have q2 := F.sub_list_frozenset
    have q3 : (Value.type "list" == Value.type "dict") = false := by decide
    unfold Builtin.«set.__init__» Builtin.Frozenset.updateFrom noKeywords
    generalize hPI : pyIter = PI
    wp_walk
    subst hPI
    refine wpAny_pyIter_list ⟨_, ho1, rfl, nn, rfl⟩ (wpAny_bind (wpAny_runValue ?_))
    refine upd_list (s := s) (by simp [hh]) ⟨_, ho, rfl, nn, rfl⟩ hit hb fun h' tk c hf => ?_
    refine (show wpAny _ _ _ _ _ _ from wpAny_pure (show wpAny (model P w) A.in1 (ret Value.none) _ _ _ from wpAny_pure ⟨rfl, h', tk, c, rfl, hf⟩))
/-- set(a list of ints) -/
theorem call_set_ints {l : Addr} {items : Array Value} {ns : List Int} {Q : Value → Shared → Prop} (hh : A.handled = none) (hl : s.heap.IsList l items) (hit : IntsAre items.toList ns) (hb : ns.length + 1 < scanBound)
    (h : ∀ h' tk c, FullS w s.heap h' ns c → Q (.ref s.heap.objs.size) { s with heap := h', toks := tk }) : wpAny (model P w) A (call (.type "set") [.ref l]) Q E s := by
  obtain ⟨mc, mt, hmro⟩ := F.called_set.mro
  have d1 := F.called_set.made
  have d2 := F.called_set.sub
  have d3 := F.called_set.notType
  have d4 := F.called_set.canCreate
  have d5 := F.typeCall_set_1 (.ref l)
  refine wpAny_call (codeAny_of_tree ?_)
  change wpAny (model P w) _ (callAny (.type "set") ⟨[.ref l], []⟩) _ _ s
  refine wpAny_pure ⟨Code.quiet_builtin _ (by decide +kernel), codeAny_builtin F.entry_type_call ?_⟩ -- the type is called
  rw [Around.under_plain (weight_type_call_type "set" [.ref l] []) rfl]
  repeat any_goals (first | assumption | wp_step)
  refine codeAny_mono (code_set_led1 (.ref l) (E := E) (Q₁ := fun v s1 => v = .ref s.heap.objs.size ∧ s1 = { s with heap := hS w s.heap }) ⟨rfl, rfl⟩) fun r s1 hr => ?_
  cases r with
  | error e => exact hr
  | ok fl =>
    cases fl with
    | ret v =>
      obtain ⟨rfl, rfl⟩ := hr
      have tS : Shared.TypeIs { s with heap := hS w s.heap } (.ref s.heap.objs.size) "set" := ⟨_, Heap.get?_push_size _ rfl, rfl⟩
      have d6 := F.called_set.init.lookup
      have d7 := F.called_set.init.bind (.ref s.heap.objs.size)
      repeat any_goals (first | assumption | wp_step)
      refine codeAny_mono (init_list (A := A.in1) (E := E) (by simp [hh]) hl hit hb) fun r2 s2 hr2 => ?_
      cases r2 with
      | error e => exact hr2
      | ok fl2 =>
        cases fl2 with
        | ret r3 =>
          obtain ⟨rfl, h', tk, c, rfl, hf⟩ := hr2
          repeat any_goals (first | assumption | wp_step)
          exact h h' tk c hf
        | _ => exact hr2.elim
    | _ => exact hr.elim
end
/-- set(a list of ints), for calls -/
def rSetI (K : PySem.W.Frag) (w : World) : List V → Hp → VK → Prop := fun xs H Q => ∃ (l : Addr) (ns : List Int), xs = [V.ref l] ∧ SqL K H l (ns.map V.int) ∧ ns.length ≤ 1000 ∧ ∀ a c, H a = none → c ≤ ns.length → Q (.ref a) (upd H a (SetO w a (fun j => decide (j ∈ ns)) c))
theorem cr_setI {X : Cx} (hc : X.calm = true) : CallR X (.type "set") (rSetI X.K X.w) := by
  intro pins s σ H xs us Q I r h
  obtain ⟨l, ns, rfl, hl, hlen, q⟩ := h
  rw [Vals.ref1 r]
  obtain ⟨its, rv, pl, _⟩ := I.list hl
  have hn : H s.heap.objs.size = none := I.hok.fresh (Nat.le_refl _)
  have hb : ns.length + 1 < scanBound := by unfold scanBound; omega
  refine call_set_ints (I.ok.hd hc) pl.isList (by simpa using rv.ints) hb fun h' tk c hf => ?_
  exact ⟨.ref s.heap.objs.size, _, I.laid (t' := tk) hf.2.2 (Nat.le_refl _) (setO_new hf.1), rfl, q _ c hn hf.2.1⟩
def insUI (p : Int) : List Int → List Int
  | [] => [p]
  | q :: r => if p = q then q :: r else if p < q then p :: q :: r else q :: insUI p r
/-- the ints of a list, each once, in order -/
def usI : List Int → List Int
  | [] => []
  | p :: r => insUI p (usI r)
theorem mem_insUI {p x : Int} : ∀ {l : List Int}, x ∈ insUI p l ↔ x = p ∨ x ∈ l
  | [] => by simp [insUI]
  | q :: r => by
    unfold insUI
    by_cases a : p = q
    · rw [if_pos a]; subst a; simp
    · rw [if_neg a]
      by_cases b : p < q
      · rw [if_pos b]; simp
      · rw [if_neg b, List.mem_cons, mem_insUI, List.mem_cons]; exact ⟨fun h => by rcases h with h | h | h <;> simp [h], fun h => by rcases h with h | h | h <;> simp [h]⟩
theorem mem_usI {x : Int} : ∀ {l : List Int}, x ∈ usI l ↔ x ∈ l
  | [] => Iff.rfl
  | p :: r => by unfold usI; rw [mem_insUI, mem_usI, List.mem_cons]
theorem insUI_lt {p : Int} : ∀ {l : List Int}, l.Pairwise (· < ·) → (insUI p l).Pairwise (· < ·)
  | [], _ => List.pairwise_singleton _ _
  | q :: r, h => by
    have h1 := List.pairwise_cons.mp h
    unfold insUI
    by_cases a : p = q
    · rw [if_pos a]; exact h
    · rw [if_neg a]
      by_cases b : p < q
      · rw [if_pos b]
        refine List.pairwise_cons.mpr ⟨fun x hx => ?_, h⟩
        rcases List.mem_cons.mp hx with e | e
        · rw [e]; exact b
        · exact Int.lt_trans b (h1.1 x e)
      · rw [if_neg b]
        refine List.pairwise_cons.mpr ⟨fun x hx => ?_, insUI_lt h1.2⟩
        rcases mem_insUI.mp hx with e | e
        · rw [e]; omega
        · exact h1.1 x e
theorem usI_lt : ∀ {l : List Int}, (usI l).Pairwise (· < ·)
  | [] => List.Pairwise.nil
  | p :: r => insUI_lt usI_lt
theorem lt_uniq : ∀ {l m : List Int}, l.Pairwise (· < ·) → m.Pairwise (· < ·) → (∀ k, k ∈ l ↔ k ∈ m) → l = m
  | [], [], _, _, _ => rfl
  | [], b :: m, _, _, h => absurd ((h b).mpr List.mem_cons_self) (by simp)
  | a :: l, [], _, _, h => absurd ((h a).mp List.mem_cons_self) (by simp)
  | a :: l, b :: m, h1, h2, h => by
    have p1 := List.pairwise_cons.mp h1
    have p2 := List.pairwise_cons.mp h2
    have e : a = b := by
      have x : a = b ∨ b < a := (List.mem_cons.mp ((h a).mp List.mem_cons_self)).imp id fun z => p2.1 a z
      have y : b = a ∨ a < b := (List.mem_cons.mp ((h b).mpr List.mem_cons_self)).imp id fun z => p1.1 b z
      omega
    subst e
    rw [lt_uniq p1.2 p2.2 fun k => ⟨fun hk => ?_, fun hk => ?_⟩]
    · have := p1.1 k hk
      rcases List.mem_cons.mp ((h k).mp (List.mem_cons_of_mem _ hk)) with z | z
      · omega
      · exact z
    · have := p2.1 k hk
      rcases List.mem_cons.mp ((h k).mpr (List.mem_cons_of_mem _ hk)) with z | z
      · omega
      · exact z
def psrtSet (ns : List Int) : Res (List Int) := guard (ns.length < 64) (usI ns)
section
variable {X : Cx} {T : Bool} {τ : TEnv} {M : Mem} {P : PK'} {E : XKx} {e a b : Expr} {pos p p1 p2 p3 q : Pos} {E1 : Er → Prop}
theorem ex_srtSetI (hm1 : X.mg "sorted" = none) (hm2 : X.mg "set" = none) (h : EX X false e τ M (fun d M1 => ∃ ns, LsD M1 d (ns.map Dat.int) ∧ ∃ Q, (psrtSet ns).Out Q E1 ∧ ∀ z, Q z → P (lstD Dat.int z) M1) E) (hc : X.calm = true := by rfl)
    (hg1 : Gl X "sorted" := by rfl) (hg2 : Gl X "set" := by rfl) (s1 : starEach [.Call (.Name "set" p2) [e] [] q] X.env = (false, eval (.Call (.Name "set" p2) [e] [] q) X.env) :: starEach [] X.env := by rfl) (s2 : starEach [e] X.env = (false, eval e X.env) :: starEach [] X.env := by rfl)
    (b1 : (backTo pos (starEach [] X.env)).any (·.1) = false := by rfl) (b2 : (backTo q (starEach [] X.env)).any (·.1) = false := by rfl) :
    EX X T (.Call (.Name "sorted" p1) [.Call (.Name "set" p2) [e] [] q] [] pos) τ M P E := .mk fun W tk σ G H hE hH Q hP hX => by
  refine tW_of (pe_callB (cr_sortedSet hc) hg1 hm1 PyProof.Rows.Boot.«sorted» (pa_cons (pe_callTy (cr_setI hc) hg2 hm2 PyProof.Rows.Boot.«set» (pa_cons pe_W pa_nil s2) (by decide) (by decide) s2 b2) pa_nil s1) (by decide) (by decide) s1 b1) ?_
  change tW X false e σ H _
  refine h.run W tk σ G H hE hH _ (fun d M1 v G1 H1 ⟨ns, l, Q', hq, hk⟩ t1 h1 dv => ?_) hX
  obtain ⟨r, us, rfl, g, dl⟩ := l.get h1 dv
  rw [dl.ints] at g
  have hl := (gd hq).1
  refine ⟨r, ns, rfl, SqL.of g, by omega, fun a c ha hcl => ?_⟩
  obtain ⟨t2, h2⟩ := Stp.new (o := SetO X.w a (fun j => decide (j ∈ ns)) c) h1 ha
  refine ⟨a, _, c, rfl, upd_same, by omega, fun zs b pw mem _ hb => ?_⟩
  have e : zs = usI ns := lt_uniq pw usI_lt fun k => by rw [mem, mem_usI]; exact decide_eq_true_iff
  obtain ⟨t3, h3⟩ := Stp.new (o := .lst (zs.map V.int)) h2 hb
  subst e
  exact hP _ _ _ _ _ (hk _ (gd hq).2) ((t1.trans t2).trans t3) h3 (den_lst upd_same denL_ints)
end
end Kh

set_option Elab.async false
set_option linter.all false
set_option maxRecDepth 100000
set_option maxHeartbeats 1000000
namespace Kh
open PySem PySem.Spec L2
/-! ### min(a list of ints) -/
def minL : List Int → Int
  | [] => 0
  | [x] => x
  | x :: y :: r => min x (minL (y :: r))
theorem minL_mem : ∀ {ns : List Int}, 0 < ns.length → minL ns ∈ ns
  | [], h => by cases h
  | [x], _ => List.mem_singleton.mpr rfl
  | x :: y :: r, _ => by
    have h := minL_mem (ns := y :: r) (by simp)
    show min x (minL (y :: r)) ∈ _
    rcases (show min x (minL (y :: r)) = x ∨ min x (minL (y :: r)) = minL (y :: r) by omega) with e | e
    · rw [e]; exact List.mem_cons_self
    · rw [e]; exact List.mem_cons_of_mem _ h
theorem minL_le : ∀ {ns : List Int}, ∀ z ∈ ns, minL ns ≤ z
  | [], z, h => by simp at h
  | [x], z, h => by rw [List.mem_singleton.mp h]; exact Int.le_refl _
  | x :: y :: r, z, h => by
    show min x (minL (y :: r)) ≤ z
    rcases List.mem_cons.mp h with e | e
    · omega
    · have := minL_le (ns := y :: r) z e
      omega
def pmin (ns : List Int) : Res Int := guard (0 < ns.length) (minL ns)
section
variable {X : Cx} {T : Bool} {M : Mem} {P : PK'} {E1 : Er → Prop}
theorem c_minL {ns : List Int} {Q : Int → Prop} (h : (pmin ns).Out Q E1) (hk : ∀ m, Q m → P (.int m) M) (hc : X.calm = true := by rfl) : BC X (.builtin "min") [lstD Dat.int ns] M P := bc_of (cr_min hc) fun G H vs hH dv Q hP => by
  obtain ⟨v, rfl, d⟩ := one_inv dv
  obtain ⟨p, us, rfl, g, dl⟩ := d.lst_inv
  rw [dl.ints] at g
  have g2 := gd h
  refine ⟨p, ns, rfl, SqL.of (hH.sub _ _ g), g2.1, fun m hm hy => ?_⟩
  have e : m = minL ns := Int.le_antisymm (hy _ (minL_mem g2.1)) (minL_le m hm)
  rw [e]
  exact hP _ _ _ _ _ (hk _ g2.2) Stp.refl hH den_int
end
end Kh

set_option Elab.async false
set_option linter.all false
set_option maxRecDepth 100000
set_option maxHeartbeats 1000000
namespace Kh
open PySem PySem.Spec L2
/-! ### x += e by an own __iadd__ -/
section
variable {X : Cx} {T : Bool} {τ : TEnv} {M : Mem} {e : Expr} {rest ss : List Stmt} {R : RK} {pos p : Pos} {x : Str} {k : Nat} {fa C : Addr} {fd : FuncData} {ps : List Str} {S : Spc}
end
section
variable {M : Mem} {P : PK'} {E : XKx} {S : Spc} {α : Type} {E1 : Er → Prop}
end
/-! ### a history that is changed is lent to a def that wants data -/
mutual
/-- data in which no list and no instance of C stands -/
def Pln (C : Addr) : Dat → Prop
  | .scr _ | .lst _ => False
  | .tup ds => PlnL C ds
  | .obj D _ ds => D ≠ C ∧ PlnL C ds
  | .xn _ _ _ ds => PlnL C ds
  | .at _ d => Pln C d
  | _ => True
def PlnL (C : Addr) : List Dat → Prop
  | [] => True
  | d :: ds => Pln C d ∧ PlnL C ds
end
/-- the places that are lent -/
structure Lent (C : Addr) (B : List Addr) (G : Hp) : Prop where
  k : ∀ b ∈ B, (∃ dx vs, G b = some (.ins C dx vs) ∧ dx ∈ B) ∨ (∃ q ∈ B, G b = some (.own q)) ∨ ∃ us, G b = some (.lst us)
open Classical in
noncomputable def cutB (B : List Addr) (G : Hp) : Hp := fun b => if b ∈ B then none else G b
section
variable {K : PySem.W.Frag} {G H : Hp} {C : Addr} {B : List Addr}
theorem cutB_out {b : Addr} (h : b ∉ B) : cutB B G b = G b := if_neg h
mutual
theorem pln_den (h : Lent C B G) : ∀ (d : Dat) (v : V), Pln C d → Den K G d v → Den K (cutB B G) d v
  | .non, _, _, q => by simpa [Den] using q
  | .bl _, _, _, q => by simpa [Den] using q
  | .int _, _, _, q => by simpa [Den] using q
  | .str _, _, _, q => by simpa [Den] using q
  | .raw _, _, _, q => by simpa [Den] using q
  | .dic0, _, _, q => by
    simp only [Den] at q ⊢
    obtain ⟨a, e, g⟩ := q
    refine ⟨a, e, ?_⟩
    rw [cutB_out (fun hb => ?_)]; exact g
    rcases h.k a hb with ⟨_, _, z, _⟩ | ⟨_, _, z⟩ | ⟨_, z⟩ <;> (rw [g] at z; cases z)
  | .scr _, _, p, _ => by simp only [Pln] at p
  | .lst _, _, p, _ => by simp only [Pln] at p
  | .tup ds, v, p, q => by
    simp only [Den, Pln] at p q ⊢
    obtain ⟨a, vs, e, s, t⟩ := q
    refine ⟨a, vs, e, ?_, plnL_den h ds vs p t⟩
    rw [cutB_out (fun hb => ?_)]; exact s
    rcases h.k a hb with ⟨_, _, z, _⟩ | ⟨_, _, z⟩ | ⟨_, z⟩ <;> (rw [s] at z; cases z)
  | .obj D ns ds, v, p, q => by
    simp only [Den, Pln] at p q ⊢
    obtain ⟨a, dx, vs, e, s, s2, t⟩ := q
    have ha : a ∉ B := fun hb => by
      rcases h.k a hb with ⟨_, _, z, _⟩ | ⟨_, _, z⟩ | ⟨_, z⟩
      · rw [s] at z
        injection z with z
        injection z with z1 _ _
        exact p.1 z1
      · rw [s] at z; cases z
      · rw [s] at z; cases z
    refine ⟨a, dx, vs, e, ?_, ?_, plnL_den h ds vs p.2 t⟩
    · rw [cutB_out ha]; exact s
    · rw [cutB_out (fun hb => ?_)]; exact s2
      rcases h.k dx hb with ⟨_, _, z, _⟩ | ⟨q', hq', z⟩ | ⟨_, z⟩
      · rw [s2] at z; cases z
      · rw [s2] at z
        injection z with z
        injection z with z
        exact ha (by rw [z]; exact hq')
      · rw [s2] at z; cases z
  | .xn a dd ns ds, v, p, q => by
    simp only [Den, Pln] at p q ⊢
    obtain ⟨vs, e, s, t⟩ := q
    refine ⟨vs, e, ?_, plnL_den h ds vs p t⟩
    rw [cutB_out (fun hb => ?_)]; exact s
    rcases h.k dd hb with ⟨_, _, z, _⟩ | ⟨_, _, z⟩ | ⟨_, z⟩ <;> (rw [s] at z; cases z)
  | .at a d, v, p, q => by
    simp only [Den, Pln] at p q ⊢
    exact ⟨q.1, pln_den h d v p q.2⟩
theorem plnL_den (h : Lent C B G) : ∀ (ds : List Dat) (vs : List V), PlnL C ds → DenL K G ds vs → DenL K (cutB B G) ds vs
  | [], _, _, q => by simpa [DenL] using q
  | d :: ds, vs, p, q => by
    simp only [DenL, PlnL] at p q ⊢
    obtain ⟨v, r, e, s, t⟩ := q
    exact ⟨v, r, e, pln_den h d v p.1 s, plnL_den h ds r p.2 t⟩
end
end
/-- what is lent are histories and lists -/
def LentM (C : Addr) (M : Mem) (B : List Addr) : Prop := ∀ b ∈ B, (∃ q dx fs, (q, MC.ins C dx fs) ∈ M ∧ q ∈ B ∧ dx ∈ B ∧ (b = q ∨ b = dx)) ∨ ∃ ds, (b, MC.lst ds) ∈ M
open Classical in
section
variable {K : PySem.W.Frag} {G G2 H H2 : Hp} {C : Addr} {B : List Addr} {M M1 Mp Mq : Mem}
theorem Hst.right {A B : Mem} (h : Hst K G (A ++ B) H) : Hst K G B H := (h.perm List.perm_append_comm).left
theorem Hst.apart {A B : Mem} (h : Hst K G (A ++ B) H) {b : Addr} (ha : b ∈ adr A) (hb : b ∈ adr B) : False := by
  have := h.nd
  rw [adr_append] at this
  exact (List.nodup_append.mp this).2.2 b ha b hb rfl
end
end Kh

set_option Elab.async false
set_option linter.all false
set_option maxRecDepth 100000
set_option maxHeartbeats 1000000
namespace Kh
open PySem PySem.Spec L2
/-! ### for x in an instance whose __iter__ gives iter(a list of its own) -/
/-! ### xs.clear(), xs a cell -/
section
variable {X : Cx} {T : Bool} {τ : TEnv} {M B : Mem} {P : PK'} {E : XKx} {o : Expr} {q : Addr} {pos apos tpos : Pos}
end
/-! ### lending a history to a def, a method, an operator -/
section
variable {X : Cx} {T : Bool} {τ : TEnv} {M : Mem} {P : PK'} {E : XKx} {E1 : Er → Prop} {C D : Addr} {B B1 B2 : List Addr} {α β : Type} {S : Spc} {k : Nat} {fa : Addr} {fd : FuncData} {ps : List Str} {m : Str} {es : List Expr}
theorem LentM.app (h1 : LentM C M B1) (h2 : LentM C M B2) : LentM C M (B1 ++ B2) := fun b hb => by
  rcases List.mem_append.mp hb with hb | hb
  · exact (h1 b hb).imp (fun ⟨q, dx, fs, a, b, c, d⟩ => ⟨q, dx, fs, a, List.mem_append_left _ b, List.mem_append_left _ c, d⟩) id
  · exact (h2 b hb).imp (fun ⟨q, dx, fs, a, b, c, d⟩ => ⟨q, dx, fs, a, List.mem_append_right _ b, List.mem_append_right _ c, d⟩) id
end
end Kh

set_option Elab.async false
set_option linter.all false
set_option maxRecDepth 100000
set_option maxHeartbeats 1000000
namespace Kh
open PySem PySem.Spec L2
/-! ### several cells handed to a def -/
section
variable {X : Cx} {T : Bool} {τ : TEnv} {M : Mem} {P : PK'} {E : XKx} {E1 : Er → Prop} {α β : Type} {S : Spc}
end
/-! ### xs.pop(), xs a cell -/
section
variable {X : Cx} {T : Bool} {τ : TEnv} {M B : Mem} {P : PK'} {E : XKx} {E1 : Er → Prop} {o : Expr} {q : Addr} {pos apos tpos : Pos} {α : Type}
end
/-! ### is of bools -/
section
variable {X : Cx} {T : Bool} {M : Mem} {P : PK'} {a b : Bool}
end
/-! ### a cell against [] -/
section
open PySem.SeqAt (EqAt RcAt RcNeAt)
variable {X : Cx} {T : Bool} {M : Mem} {P : PK'} {q : Addr} {α : Type}
end
/-! ### C(k = v, ..) -/
section
variable {X : Cx} {T : Bool} {τ : TEnv} {M : Mem} {P : PK'} {E : XKx} {e : Expr} {es : List Expr} {pos p kpos : Pos} {k n : Nat} {f C : Addr} {fd : FuncData} {ps ks : List Str} {S : Spc} {x : Str} {nm : Option Str} {kws : List Keyword} {t : List Src}
end
end Kh

set_option Elab.async false
set_option linter.all false
set_option maxRecDepth 100000
set_option maxHeartbeats 1000000
namespace Kh
open PySem PySem.Spec L2
/-! ### o.f += e by an own __iadd__ of what the field holds -/
section
variable {X : Cx} {T : Bool} {τ : TEnv} {M : Mem} {o e : Expr} {rest ss : List Stmt} {R : RK} {pos tpos : Pos} {f : Str} {k : Nat} {fa C : Addr} {fd : FuncData} {ps : List Str} {S : Spc}
end
/-! ### an instance with a list of its own is given back as data -/
section
variable {X : Cx} {T : Bool} {τ : TEnv} {M : Mem} {e : Expr} {P : PK'} {E : XKx} {C : Addr}
end
/-! ### copiers: their cells, by their addresses -/
section
variable (CC CH : Addr) (fD : Str → Dat) (q : Addr)
end
/-! ### loops over places, told by what lies there -/
section
variable {X : Cx} {T : Bool} {τ : TEnv} {M : Mem} {P : PK'} {E : XKx} {t e iter tg : Expr} {p q body rest : List Stmt} {pos : Pos} {α β σ ρ : Type} {E1 : Er → Prop} {R : RK}
end
/-! ### a store's copiers, handed as a whole; one of them -/
section
variable {X : Cx} {T : Bool} {τ : TEnv} {M : Mem} {P : PK'} {E : XKx} {α β : Type} {E1 : Er → Prop} {S : Spc}
variable {CC CH : Addr} {fD : Str → Dat} {q : Addr}
end
/-! ### o.m(e, .., k = v, ..), and keyword-only parameters left out -/
section
variable {X : Cx} {T : Bool} {τ : TEnv} {M : Mem} {P : PK'} {E : XKx} {e o : Expr} {es : List Expr} {pos p apos : Pos} {m : Str} {n : Nat} {ks : List Str} {kws : List Keyword} {t : List Src}
end
end Kh

set_option Elab.async false
set_option linter.all false
set_option maxRecDepth 100000
set_option maxHeartbeats 1000000
namespace Kh
open PySem PySem.Spec L2
/-! ### a value of any kind that must be of some kind, in the middle of a chain -/
def AsT : Any → Res (List Any)
  | .tup xs => .ok xs
  | _ => .bad
section
variable {β : Type} {cl : OK → Addr × List Str} {P : β → Prop} {E : Er → Prop} {a : Any}
@[elab_as_elim] theorem asI_at {k : Int → Res β} {motive : Dat → Prop} (d : Dat) (e : d = anyD cl a) (h : ((AsI a).bind k).Out P E) (hk : ∀ i, (k i).Out P E → motive (.int i)) : motive d := by
  subst e
  cases a <;> first | exact h.elim | (simp only [anyD]; exact hk _ h)
@[elab_as_elim] theorem asS_at {k : Str → Res β} {motive : Dat → Prop} (d : Dat) (e : d = anyD cl a) (h : ((AsS a).bind k).Out P E) (hk : ∀ i, (k i).Out P E → motive (.str i)) : motive d := by
  subst e
  cases a <;> first | exact h.elim | (simp only [anyD]; exact hk _ h)
@[elab_as_elim] theorem asL_at {k : List Any → Res β} {motive : Dat → Prop} (d : Dat) (e : d = anyD cl a) (h : ((AsL a).bind k).Out P E) (hk : ∀ i, (k i).Out P E → motive (lstD (anyD cl) i)) : motive d := by
  subst e
  cases a <;> first | exact h.elim | (simp only [anyD, anyDL_map]; exact hk _ h)
@[elab_as_elim] theorem asT_at {k : List Any → Res β} {motive : Dat → Prop} (d : Dat) (e : d = anyD cl a) (h : ((AsT a).bind k).Out P E) (hk : ∀ i, (k i).Out P E → motive (vtpD (anyD cl) i)) : motive d := by
  subst e
  cases a <;> first | exact h.elim | (simp only [anyD, anyDL_map]; exact hk _ h)
end
section
variable {X : Cx} {T : Bool} {M : Mem} {P : PK'} {cl : OK → Addr × List Str} {a : Any}
end
/-! ### x += e by an own __iadd__ that refuses -/
section
variable {X : Cx} {T : Bool} {τ : TEnv} {M : Mem} {e : Expr} {rest ss : List Stmt} {R : RK} {pos p : Pos} {x : Str} {k : Nat} {fa C : Addr} {fd : FuncData} {ps : List Str} {S : Spc}
end
/-! ### lists compared, item by item, by any way -/
open PySem.SeqAt PySem.MeetsSeq PySem.MeetsSeq2 PySem.MeetsSeq3 PySem.SeqRoads2
open PySem.AutoSeq1 (wpAny_loadPart')
section
variable {X : Cx} {T : Bool} {M : Mem} {P : PK'} {α : Type} {f : α → Dat} {me : α → α → Res Bool} {Q1 : Bool → Prop} {E1 : Er → Prop}
end
section
variable {X : Cx} {T : Bool} {M : Mem} {P : PK'} {β : Type} {cl : OK → Addr × List Str} {dec : Any → Option β} {fo : β → Dat} {mo : β → β → Res Bool} {Q1 : Bool → Prop} {E1 : Er → Prop}
end
section
variable {X : Cx} {T : Bool} {M : Mem} {P : PK'} {cl : OK → Addr × List Str} {a : Any}
end
/-! ### [f, g, ..][i](e, ..): a table of defs, defaults by keyword too -/
section
variable {X : Cx} {τ : TEnv} {M : Mem} {P : PK'} {E : XKx} {cal e : Expr} {es : List Expr} {pos : Pos}
end
/-- one of some ways -/
def ptab {β : Type} : Int → List (Res β) → Res β
  | _, [] => .bad
  | i, m :: ms => cond (decide (i = 0)) m (ptab (i - 1) ms)
@[elab_as_elim] theorem ptab_c {β : Type} {P : β → Prop} {E : Er → Prop} {m : Res β} {ms : List (Res β)} {motive : Int → Prop} (i : Int) (h : (ptab i (m :: ms)).Out P E) (h0 : m.Out P E → motive 0) (hs : ∀ j, (ptab j ms).Out P E → motive (j + 1)) : motive i := by
  have h : (cond (decide (i = 0)) m (ptab (i - 1) ms)).Out P E := h
  by_cases e : i = 0
  · subst e; exact h0 h
  · rw [decide_eq_false e] at h
    have := hs (i - 1) h
    rw [Int.sub_add_cancel] at this
    exact this
end Kh

set_option Elab.async false
set_option linter.all false
set_option maxRecDepth 100000
set_option maxHeartbeats 1000000
namespace Kh
open PySem PySem.Spec L2
/-! ### keywords alone, of functions and of methods -/
section
variable {X : Cx} {T : Bool} {τ : TEnv} {M : Mem} {P : PK'} {E : XKx} {e o : Expr} {es : List Expr} {pos p apos : Pos} {k n : Nat} {f : Addr} {fd : FuncData} {ps ks : List Str} {S : Spc} {x m : Str} {kws : List Keyword} {t : List Src}
end
/-! ### options compared, where what they hold has an own == -/
section
variable {X : Cx} {T : Bool} {M : Mem} {P : PK'} {α : Type} {f : α → Dat} {me : α → α → Res Bool} {Q1 : Bool → Prop} {E1 : Er → Prop}
end
end Kh

set_option Elab.async false
set_option linter.all false
set_option maxRecDepth 100000
set_option maxHeartbeats 1000000
namespace Kh
open PySem PySem.Spec L2
/-! ### numbers and texts -/
section
variable {X : Cx} {T : Bool} {τ : TEnv} {M : Mem} {P : PK'} {E : XKx} {o e : Expr} {es : List Expr} {apos tpos pos : Pos} {E1 : Er → Prop}
end
end Kh

set_option Elab.async false
set_option linter.all false
set_option maxRecDepth 100000
set_option maxHeartbeats 1000000
namespace Kh
open PySem PySem.Spec L2
/-! ### one of a store's copiers, with some other cells (its store's own) handed too -/
section
variable {M : Mem} {P : PK'} {E : XKx} {α : Type} {E1 : Er → Prop} {S : Spc} {CC CH : Addr} {fD : Str → Dat} {q : Addr}
end
end Kh

set_option Elab.async false
set_option linter.all false
set_option maxRecDepth 100000
set_option maxHeartbeats 1000000
namespace Kh
open PySem PySem.Spec L2
/-! ### dicts by keys of one kind, texts or whole numbers -/
structure KyD (κ : Type) [DecidableEq κ] where
  k : κ → Key
  inj : ∀ {a b : κ}, k a = k b → a = b
  d : κ → Dat
  den : ∀ {K : PySem.W.Frag} {G : Hp} {x : κ} {v : V}, Den K G (d x) v → v = kV (k x)
def kyS : KyD Str := ⟨Sum.inr, fun h => Sum.inr.inj h, Dat.str, fun h => h.str_inv⟩
section
variable {κ : Type} [DecidableEq κ] {β : Type}
def dicG (y : KyD κ) (f : β → Dat) (ds : List (κ × β)) : List (Key × Dat) := ds.map fun p => (y.k p.1, f p.2)
def gget (ds : List (κ × β)) (k : κ) : Option β := (ds.find? fun p => decide (p.1 = k)).map (·.2)
theorem gget_cons {p : κ × β} {ds : List (κ × β)} {k : κ} : gget (p :: ds) k = if p.1 = k then some p.2 else gget ds k := by
  unfold gget
  rw [List.find?_cons]
  by_cases e : p.1 = k
  · rw [decide_eq_true e, if_pos e]; rfl
  · rw [decide_eq_false e, if_neg e]
theorem dicG_get {K : PySem.W.Frag} {G : Hp} {y : KyD κ} {f : β → Dat} {k : κ} : ∀ {ds : List (κ × β)} {vs : List (Key × V)}, DenF K G (dicG y f ds) vs → match gget ds k with
    | none => valV vs (y.k k) = none
    | some x => ∃ v, valV vs (y.k k) = some v ∧ Den K G (f x) v
  | [], vs, h => by
    have e0 : vs = [] := by simpa [dicG] using h.1
    subst e0; rfl
  | p :: ds, vs, h => by
    obtain ⟨hk, hv⟩ := h
    cases vs with
    | nil => simp [dicG] at hk
    | cons w vs =>
      rw [dicG, List.map_cons, List.map_cons, List.map_cons, List.cons.injEq] at hk
      obtain ⟨v, r, ev, d1, d2⟩ := hv.cons_inv
      rw [List.map_cons, List.cons.injEq] at ev
      have ih := dicG_get (K := K) (G := G) (y := y) (f := f) (k := k) (ds := ds) (vs := vs) ⟨hk.2, by rw [ev.2]; exact d2⟩
      rw [gget_cons]
      by_cases e : p.1 = k
      · rw [if_pos e]
        exact ⟨w.2, valV_pos (by rw [hk.1, e]), by rw [ev.1]; exact d1⟩
      · rw [if_neg e]
        have nw : ¬ w.1 = y.k k := fun z => e (y.inj (hk.1.symm.trans z))
        rw [valV_neg nw]
        exact ih
end
section
variable {X : Cx} {T : Bool} {τ : TEnv} {M : Mem} {P : PK'} {E : XKx} {e o i f2 value : Expr} {rest : List Stmt} {R : RK} {pos p pos' cpos apos tpos : Pos} {E1 : Er → Prop} {κ : Type} [DecidableEq κ] {β : Type}
/-- d[k]; nothing is told where it is not in it -/
def pgget (ds : List (κ × β)) (k : κ) : Res β := match gget ds k with
  | some x => .ok x
  | none => .bad
theorem ex_gget (y : KyD κ) (f : β → Dat) (hu : X.A.units + 64 < cLine) (h : EX X false o τ M (fun od M1 => EX X false i τ M1 (fun id M2 => ∃ (q : Addr) (ds : List (κ × β)) (k : κ) (Q : β → Prop) (E1 : Er → Prop), od = .raw (.ref q) ∧ id = y.d k ∧ (q, MC.dic (dicG y f ds)) ∈ M2 ∧ (pgget ds k).Out Q E1 ∧ ∀ x, Q x → P (f x) M2) E) E) (hs : NoSl i := by exact fun _ => rfl) : EX X T (.Subscript o i pos) τ M P E := .mk fun W tk σ G H hE hH Q' hP hX => by
  refine tW_of (pe_dget (by omega : X.A.units + 1 < cLine) (pe_W (e := o)) (pe_W (e := i)) hs) ?_
  refine h.run W tk σ G H hE hH _ (fun od M1 ov G1 H1 hi s1 h1 dov => ?_) hX
  refine hi.run W tk σ G1 H1 (hE.up s1.gg) h1 _ (fun id M2 iv G2 H2 ⟨q, ds, k, Q, E1, e1, e2, hm, hg, hp⟩ s2 h2 div => ?_) (hX.step s1)
  subst e1; subst e2
  obtain ⟨vs, g, df⟩ := h2.mem _ hm
  have q9 := dicG_get (k := k) df
  unfold pgget at hg
  cases e : gget ds k with
  | none => rw [e] at hg; exact hg.elim
  | some x =>
    rw [e] at hg q9
    obtain ⟨v, ev, dv⟩ := q9
    refine ⟨q, v, (dov.up s2.gg).raw_inv, ?_, hP _ _ _ _ _ (hp x hg) (s1.trans s2) h2 dv⟩
    rw [y.den div, ← ev]
    exact DGet.k (k := y.k k) g
/-- d.get(k, x) -/
theorem ex_ggetD (y : KyD κ) (f : β → Dat) (hu : X.A.units + 64 < cLine) (h : EX X false o τ M (fun od M1 => ∃ (q : Addr) (ds : List (κ × β)), od = .raw (.ref q) ∧ (q, MC.dic (dicG y f ds)) ∈ M1 ∧ EX X false e τ M1 (fun id M2 => EX X false f2 τ M2 (fun xd M3 => ∃ (ds : List (κ × β)) (k : κ) (x : β), id = y.d k ∧ xd = f x ∧ (q, MC.dic (dicG y f ds)) ∈ M3 ∧ P (f ((gget ds k).getD x)) M3) E) E) E)
    (m1 : attributeBase o "get" X.env (eval o X.env) = eval o X.env := by rfl)
    (m2 : ((backTo cpos (starEach [e, f2] X.env)).all (fun x => !x.1) && (backToKw cpos (keywordEach [] X.env)).all (fun x => x.1.isSome) && decide (([e, f2] : List Expr).length + ([] : List Keyword).length + (if ([] : List Keyword).isEmpty then 0 else 1) < 30)) = true := by rfl)
    (m3 : (apos.endLine == cpos.line) = true := by rfl) (m4 : backTo cpos (starEach [e, f2] X.env) = [(false, eval e X.env), (false, eval f2 X.env)] := by rfl) : EX X T (.Call (.Attribute o "get" apos) [e, f2] [] cpos) τ M P E := .mk fun W tk σ G H hE hH Q' hP hX => by
  refine tW_of (pe_dget2 (by omega : X.A.units + 1 < cLine) (pe_W (e := o)) (pe_W (e := e)) (pe_W (e := f2)) ⟨m1, m2, m3, m4⟩) ?_
  refine h.run W tk σ G H hE hH _ (fun od M1 ov G1 H1 ⟨q, ds0, e0, hm0, hi⟩ s1 h1 dov => ?_) hX
  subst e0
  obtain ⟨vs0, g0, df0⟩ := h1.mem _ hm0
  refine ⟨q, dov.raw_inv, .inl ⟨vs0, .inl g0⟩, ?_⟩
  refine hi.run W tk σ G1 H1 (hE.up s1.gg) h1 _ (fun id M2 iv G2 H2 hx s2 h2 div => ?_) (hX.step s1)
  refine hx.run W tk σ G2 H2 ((hE.up s1.gg).up s2.gg) h2 _ (fun xd M3 xv G3 H3 ⟨ds, k, x, e1, e2, hm, hp⟩ s3 h3 dxv => ?_) ((hX.step s1).step s2)
  subst e1; subst e2
  obtain ⟨vs, g, df⟩ := h3.mem _ hm
  refine ⟨valV vs (y.k k), ?_, ?_⟩
  · rw [y.den (div.up s3.gg)]
    exact DGet.k (k := y.k k) g
  · have q9 := dicG_get (k := k) df
    cases ek : gget ds k with
    | none =>
      rw [ek] at q9 hp
      simp only at q9
      rw [q9]
      exact hP _ _ _ _ _ hp ((s1.trans s2).trans s3) h3 dxv
    | some z =>
      rw [ek] at q9 hp
      obtain ⟨v, ev, dv⟩ := q9
      rw [ev]
      exact hP _ _ _ _ _ hp ((s1.trans s2).trans s3) h3 dv
end
end Kh

set_option Elab.async false
set_option linter.all false
set_option maxRecDepth 100000
set_option maxHeartbeats 1000000
namespace Kh
open PySem PySem.Spec L2
/-! ### plain values of several kinds, and what may be such a value, a new list of them, or a file -/
section
variable {X : Cx} {T : Bool} {τ : TEnv} {M : Mem} {P : PK'} {E : XKx} {E1 : Er → Prop} {C : Addr} {S : Spc} {α β : Type}
end
/-! ### [f, g, ..][i](.., k = v) -/
section
variable {X : Cx} {τ : TEnv} {M : Mem} {P : PK'} {E : XKx} {cal e : Expr} {es : List Expr} {pos : Pos} {kws : List Keyword} {ks0 : List Str}
end
section
/-! a copier's history as one that is changed -/
variable {M : Mem} {P : PK'} {α : Type} {E1 : Er → Prop} {CC CH : Addr} {fD : Str → Dat} {q : Addr}
end
end Kh

set_option Elab.async false
set_option linter.all false
set_option maxRecDepth 100000
set_option maxHeartbeats 4000000
namespace Kh
open PySem PySem.Spec PyProof.Rows L2
open PySem.W (EachIs dataLe AllAlike Sortable)
/-! ### sorted(set(texts)) -/
/-- the set of the texts l at a -/
def SetT (P : Program) (w : World) (h : Heap) (a : Addr) (l : List Str) : Prop :=
  ∃ D, h.get? a = some (PySem.Froz.sObj "set" D) ∧ PySem.Froz.TxOk P w D l ∧ Ris D.2.2.place.toList ∧ (w.params.followText "set-order" = true ∨ D.2.2.led = true) ∧ l.Nodup
theorem setT_at {P : Program} {w : World} {h g : Heap} {a : Addr} {l : List Str} (R : SetT P w h a l) (kp : ∀ o, h.get? a = some o → g.get? a = some o) : SetT P w g a l := by
  obtain ⟨D, ho, z⟩ := R
  exact ⟨D, kp _ ho, z⟩
theorem addTx_keeps {hv : Int} {v : Value} {D : PySem.Froz.SD} (r : Ris D.2.2.place.toList) : Ris (PySem.Froz.addTx hv v D).2.2.place.toList ∧ (PySem.Froz.addTx hv v D).2.2.led = D.2.2.led := by
  have r1 := layNew_ris D.2.2 D.1 hv v r
  have l1 := layNew_led D.2.2 D.1 hv v
  unfold PySem.Froz.addTx
  generalize layNew D.2.2 D.1 hv v = z at r1 l1 ⊢
  have q : Ris (if z.2.1.plain = true then { z.2.1 with plain := false } else z.2.1).place.toList ∧ (if z.2.1.plain = true then { z.2.1 with plain := false } else z.2.1).led = D.2.2.led := by
    split
    · exact ⟨r1, l1⟩
    · exact ⟨r1, l1⟩
  generalize (if z.2.1.plain = true then { z.2.1 with plain := false } else z.2.1) = t at q
  unfold PySem.Froz.tailTx
  split
  · exact ⟨relayAll_ris _ _ _, (relayAll_led _ _ _).trans q.2⟩
  · exact q
section
variable {P : Program} {w : World} {A : Around} {E : Value → Shared → Prop} {s : Shared} {a : Addr} {l : List Str} {k : Str} {u : Tok} {Q : Bool → Shared → Prop}
theorem setT_new (R : SetT P w s.heap a l) (hk : k ∉ l) (room : l.length + 1 < scanBound) (h : ∀ g, Heap.SameBut a s.heap g → SetT P w g a (k :: l) → Q true { s with heap := g }) : wpAny (model P w) A (setAddHashed a (.str k u) (PySem.hashStr w k)) Q E s := by
  obtain ⟨D, ho, F, r, hl, nd⟩ := R
  obtain ⟨r2, l2⟩ := addTx_keeps (hv := PySem.hashStr w k) (v := .str k u) r
  exact PySem.Froz.add_x ho F hk room (h _ (Heap.SameBut.update s.heap a _) ⟨_, PySem.Froz.get_upd _ ho rfl, PySem.Froz.add_ok u F, r2, hl.imp id fun z => l2.trans z, List.nodup_cons.mpr ⟨hk, nd⟩⟩)
theorem setT_old (R : SetT P w s.heap a l) (hk : k ∈ l) (room : l.length + 1 < scanBound) (h : Q false s) : wpAny (model P w) A (setAddHashed a (.str k u) (PySem.hashStr w k)) Q E s := by
  obtain ⟨⟨es, ep, t⟩, ho, F, r, hl, nd⟩ := R
  have sz : es.size = l.length := F.sz
  have el : ElemsOf (strKind P w) es.toList := F.el
  have here : ∃ j, List.findIdx? (fun e => (strKind P w).is k e.2) es.toList = some j := by
    cases c : List.findIdx? (fun e => (strKind P w).is k e.2) es.toList with
    | some j => exact ⟨j, rfl⟩
    | none =>
      obtain ⟨e, he, q⟩ := (F.mem k).mp hk
      exact absurd q (by rw [List.findIdx?_eq_none_iff.mp c e he]; decide)
  obtain ⟨j, hj⟩ := here
  unfold setAddHashed setAddHashedIn
  refine wpAny_holding (wpAny_bind (wpAny_setState_of ho (show (PySem.Froz.sObj "set" (es, ep, t)).data = .set es ep t from rfl) F.fit ?_))
  dsimp only
  rw [byScan_of rfl (show es.size < scanBound by omega) el]; simp only [↓reduceIte]; unfold setAddByScan
  refine wpAny_bind (wpAny_bind (wpAny_rule (wpAny_bind (wpAny_setScan_of (knd := strKind P w) (k := k) (PySem.Froz.is_str k u) ho (show (PySem.Froz.sObj "set" (es, ep, t)).data = .set es ep t from rfl) F.fit el ?_))))
  rw [hj]; dsimp only
  exact wpAny_pure (wpAny_pure h)
/-- one text more -/
def addU (k : Str) (l : List Str) : List Str := if k ∈ l then l else k :: l
theorem mem_addU {x : Str} : x ∈ addU k l ↔ x = k ∨ x ∈ l := by
  unfold addU
  split
  · rename_i h
    exact ⟨.inr, fun z => z.elim (fun e => e ▸ h) id⟩
  · exact List.mem_cons
theorem len_addU : (addU k l).length ≤ l.length + 1 := by
  unfold addU
  split
  · omega
  · exact Nat.le_refl _
theorem setT_add (R : SetT P w s.heap a l) (room : l.length + 1 < scanBound) (h : ∀ b g, Heap.SameBut a s.heap g → SetT P w g a (addU k l) → Q b { s with heap := g }) : wpAny (model P w) A (setAddHashed a (.str k u) (PySem.hashStr w k)) Q E s := by
  by_cases hk : k ∈ l
  · have e : addU k l = l := if_pos hk
    refine setT_old R hk room ?_
    have q := h false s.heap (Heap.SameBut.refl a s.heap) (by rw [e]; exact R)
    cases s; exact q
  · have e : addU k l = k :: l := if_neg hk
    exact setT_new R hk room fun g sb r => h true g sb (by rw [e]; exact r)
end
section
variable {P : Program} {w : World} {A : Around} {E : Value → Shared → Prop} {s : Shared}
theorem set_update_txts {it : Addr} {fp wr : List Addr} {G : Array GenState → Array GenState → Prop} {n : Nat} {Pv : Nat → Value → Prop} {St : Nat → Shared → Prop} {R : Result → Shared → Prop}
    (W : WalksS P w A.in1 it fp wr G n Pv St) (a : Addr) (out : a ∉ fp) (xs : List Str) (hn : n = xs.length) (room : xs.length + 1 < scanBound) (hv : ∀ i v, Pv i v → ∃ k t, xs[i]? = some k ∧ v = .str k t) :
    ∀ (m i : Nat) (s : Shared), n - i = m → i ≤ n → St i s → (∃ l, l.length ≤ i ∧ SetT P w s.heap a l ∧ ∀ x, x ∈ l ↔ x ∈ xs.take i) →
      (∀ s2 l, Moved (a :: wr) G s s2 → l.length ≤ n → SetT P w s2.heap a l → (∀ x, x ∈ l ↔ x ∈ xs) → R (.ok (.ret .none)) s2) → codeAny (model P w) A (.builtin "set.update.loop" ⟨[.ref a, .ref it], []⟩) R s := by
  have aw : a ∉ wr := fun z => out (W.sub _ z)
  have more : ∀ b ∈ wr, b ∈ a :: wr := fun b z => List.mem_cons_of_mem _ z
  intro m
  induction m with
  | zero =>
    intro i s hm hi st ⟨l, hl, T, mem⟩ q
    obtain rfl : i = n := by omega
    refine codeAny_builtin F.entry_set_update_loop ?_; rw [Around.under_plainId F.plain_set_update_loop _]
    show wpAny _ A.in1 (pyNext (.ref it) >>= _) _ _ s
    refine wpAny_bind (W.done s _ _ st fun s2 mv => ?_)
    show wpAny _ A.in1 (ret Value.none) _ _ s2
    rw [List.take_of_length_le (by omega)] at mem
    exact wpAny_pure (q s2 l (mv.mono more) hl (setT_at T fun o e => mv.heap a o aw e) mem)
  | succ m ih =>
    intro i s hm hi st ⟨l, hl, T, mem⟩ q
    have lt : i < n := by omega
    refine codeAny_builtin F.entry_set_update_loop ?_; rw [Around.under_plainId F.plain_set_update_loop _]
    show wpAny _ A.in1 (pyNext (.ref it) >>= _) _ _ s
    refine wpAny_bind (W.item i s _ _ lt st fun v s2 hP st2 mv => ?_)
    obtain ⟨z, t, hz, rfl⟩ := hv i v hP
    have T2 := setT_at T fun o e => mv.heap a o aw e
    show wpAny _ A.in1 (holding [Value.str z t] (setAdd a (.str z t)) >>= _) _ _ s2
    refine wpAny_bind (wpAny_holding ?_); unfold setAdd
    refine wpAny_holding (wpAny_bind ((strKind P w).pyHash (k := z) (PySem.Froz.is_str z t) ?_))
    refine setT_add (s := { s2 with toks := s2.toks + 1 }) T2 (by omega) fun b g sb T3 => ?_
    have mem3 : ∀ x, x ∈ addU z l ↔ x ∈ xs.take (i + 1) := fun x => by
      rw [mem_addU, mem x, List.take_add_one, hz]
      simp only [Option.toList_some, List.mem_append, List.mem_singleton]
      exact Or.comm
    have len3 : (addU z l).length ≤ i + 1 := Nat.le_trans len_addU (by omega)
    refine wpAny_pure ⟨plainId_quiet F.plain_set_update_loop _, ih (i + 1) _ (by omega) lt (W.frame _ s2 _ _ st2 (Nat.le_succ _) fun b hb o e => ?_) ⟨_, len3, T3, mem3⟩ fun s3 l3 mv3 hl3 T4 mem4 => ?_⟩
    · rw [sb.2 b (fun h : b = a => out (by rw [← h]; exact hb))]; exact e
    · refine q s3 l3 (Moved.trans W.gtrans ((mv.mono more).then_heap (Nat.le_succ _) fun b o hb e => ?_) mv3) hl3 T4 mem4
      rw [sb.2 b (fun h : b = a => hb (by rw [h]; exact List.mem_cons_self))]; exact e
/-- texts as a list's items -/
abbrev Txs (us : List Value) (xs : List Str) : Prop := EachIs (fun v b => ∃ t, v = Value.str b t) us xs
theorem txs_at : ∀ {us : List Value} {xs : List Str}, Txs us xs → ∀ {i : Nat} {v : Value}, us[i]? = some v → ∃ k t, xs[i]? = some k ∧ v = .str k t
  | _, _, .nil, i, v, h => by simp at h
  | _, _, .cons (b := b) h1 h2, 0, v, h => by
    obtain ⟨t, e⟩ := h1
    exact ⟨b, t, rfl, by rw [← e]; exact (Option.some.inj h).symm⟩
  | _, _, .cons h1 h2, i + 1, v, h => txs_at h2 (i := i) h
/-- what the set is when all of them are in -/
abbrev FullT (P : Program) (w : World) (h0 g : Heap) (xs l : List Str) : Prop := SetT P w g h0.objs.size l ∧ l.length ≤ xs.length ∧ (∀ x, x ∈ l ↔ x ∈ xs) ∧ ∀ b o, h0.get? b = some o → g.get? b = some o
theorem upd_txts {l : Addr} {items : Array Value} {xs : List Str} (hh : A.in1.handled = none) (hl : s.heap.IsList l items) (hit : Txs items.toList xs) (hb : xs.length + 1 < scanBound) {R : Result → Shared → Prop}
    (hR : ∀ g tk c, FullT P w s.heap g xs c → R (.ok (.ret .none)) { s with heap := g, toks := tk }) :
    codeAny (model P w) A (.builtin "set.update.loop" ⟨[.ref s.heap.objs.size, .ref (hS w s.heap).objs.size], []⟩) R { s with heap := (hS w s.heap).push { cls := .type "list_iterator", data := .fields #[.ref l, .int 0 0] } } := by
  have hn : items.size = xs.length := by rw [← Array.length_toList]; exact EachIs.length hit
  obtain ⟨o0, ho0⟩ : ∃ o, s.heap.get? l = some o := by obtain ⟨o, ho, _⟩ := hl; exact ⟨o, ho⟩
  obtain ⟨n1, n2⟩ := old_ne (w := w) ho0
  have out : s.heap.objs.size ∉ [(hS w s.heap).objs.size, l] := by
    intro z
    rcases List.mem_cons.mp z with z | z
    · have : (hS w s.heap).objs.size = s.heap.objs.size + 1 := Heap.size_push ..
      omega
    · exact n1 (List.mem_singleton.mp z).symm
  have vals : ∀ (i : Nat) (v : Value), items[i]? = some v → ∃ k t, xs[i]? = some k ∧ v = .str k t := fun i v hv => txs_at hit (by rw [Array.getElem?_toList]; exact hv)
  have hl1 : (hS w s.heap).IsList l items := hl.push _
  have new : SetT P w ((hS w s.heap).push { cls := .type "list_iterator", data := .fields #[.ref l, .int 0 0] }) s.heap.objs.size [] :=
    ⟨(#[], 0, .fresh 0 0 (!w.params.followText "set-order")), Heap.get?_push_of_some _ (Heap.get?_push_size _ rfl), PySem.Froz.TxOk.nil (by rfl), List.Pairwise.nil, by
      show _ ∨ (!w.params.followText "set-order") = true
      cases w.params.followText "set-order"
      · exact .inr rfl
      · exact .inl rfl, List.nodup_nil⟩
  refine set_update_txts ((Walks.list hh _ l n2 items).toS) s.heap.objs.size out xs hn hb vals items.size 0 _ (by omega) (Nat.zero_le _) ⟨⟨_, Heap.get?_push_size _ rfl, rfl, rfl⟩, hl1.push _⟩ ⟨[], Nat.le_refl 0, new, fun x => by simp⟩ ?_
  intro s2 c hm hc T mem
  obtain ⟨g, g2, d2, tk, os2⟩ := s2
  obtain rfl : g2 = s.gens := hm.gens
  obtain rfl : d2 = s.drawn := hm.drawn
  obtain rfl : os2 = s.os := hm.os
  refine hR g tk c ⟨T, by omega, mem, fun b o e => ?_⟩
  obtain ⟨m1, m2⟩ := old_ne (w := w) e
  refine hm.heap b o (fun z => ?_) (Heap.get?_push_of_some _ (Heap.get?_push_of_some _ e))
  rcases List.mem_cons.mp z with z | z
  · exact m1 z
  · exact m2 (List.mem_singleton.mp z)
/-- set.__init__ of a list of texts -/
theorem init_txts {l : Addr} {items : Array Value} {xs : List Str} (hh : A.handled = none) (hl : s.heap.IsList l items) (hit : Txs items.toList xs) (hb : xs.length + 1 < scanBound) :
    codeAny (model P w) A (.call (.builtin "set.__init__") ⟨[.ref s.heap.objs.size, .ref l], []⟩) (wants (fun r s2 => r = .none ∧ ∃ g tk c, s2 = { s with heap := g, toks := tk } ∧ FullT P w s.heap g xs c) E) { s with heap := hS w s.heap } := by
  have tS : Shared.TypeIs { s with heap := hS w s.heap } (.ref s.heap.objs.size) "set" := ⟨_, Heap.get?_push_size _ rfl, rfl⟩
  refine codeAny_call_builtin F.called_set.init.plain F.entry_set_init (check_set_init_1 tS ?_)
  obtain ⟨⟨cl, di, da, sl⟩, ho, e1, nn, e2⟩ := hl
  simp only at e1 e2
  subst e1; subst e2
  have ho1 : (hS w s.heap).get? l = some { cls := .type "list", dict := di, data := .seq items nn, slots := sl } := Heap.get?_push_of_some _ ho
  have q1 := F.sub_list_set
  have q2 := F.sub_list_frozenset
  have q3 : (Value.type "list" == Value.type "dict") = false := by decide
  unfold Builtin.«set.__init__» Builtin.Frozenset.updateFrom noKeywords
  generalize hPI : pyIter = PI
  wp_walk
  subst hPI
  refine wpAny_pyIter_list ⟨_, ho1, rfl, nn, rfl⟩ (wpAny_bind (wpAny_runValue ?_))
  refine upd_txts (s := s) (by simp [hh]) ⟨_, ho, rfl, nn, rfl⟩ hit hb fun g tk c hf => ?_
  refine (show wpAny _ _ _ _ _ _ from wpAny_pure (show wpAny (model P w) A.in1 (ret Value.none) _ _ _ from wpAny_pure ⟨rfl, g, tk, c, rfl, hf⟩))
/-- set(a list of texts) -/
theorem call_set_txts {l : Addr} {items : Array Value} {xs : List Str} {Q : Value → Shared → Prop} (hh : A.handled = none) (hl : s.heap.IsList l items) (hit : Txs items.toList xs) (hb : xs.length + 1 < scanBound)
    (h : ∀ g tk c, FullT P w s.heap g xs c → Q (.ref s.heap.objs.size) { s with heap := g, toks := tk }) : wpAny (model P w) A (call (.type "set") [.ref l]) Q E s := by
  obtain ⟨mc, mt, hmro⟩ := F.called_set.mro
  have d1 := F.called_set.made
  have d2 := F.called_set.sub
  have d3 := F.called_set.notType
  have d4 := F.called_set.canCreate
  have d5 := F.typeCall_set_1 (.ref l)
  refine wpAny_call (codeAny_of_tree ?_)
  change wpAny (model P w) _ (callAny (.type "set") ⟨[.ref l], []⟩) _ _ s
  refine wpAny_pure ⟨Code.quiet_builtin _ (by decide +kernel), codeAny_builtin F.entry_type_call ?_⟩ -- the type is called
  rw [Around.under_plain (weight_type_call_type "set" [.ref l] []) rfl]
  repeat any_goals (first | assumption | wp_step)
  refine codeAny_mono (code_set_led1 (.ref l) (E := E) (Q₁ := fun v s1 => v = .ref s.heap.objs.size ∧ s1 = { s with heap := hS w s.heap }) ⟨rfl, rfl⟩) fun r s1 hr => ?_
  cases r with
  | error e => exact hr
  | ok fl =>
    cases fl with
    | ret v =>
      obtain ⟨rfl, rfl⟩ := hr
      have tS : Shared.TypeIs { s with heap := hS w s.heap } (.ref s.heap.objs.size) "set" := ⟨_, Heap.get?_push_size _ rfl, rfl⟩
      have d6 := F.called_set.init.lookup
      have d7 := F.called_set.init.bind (.ref s.heap.objs.size)
      repeat any_goals (first | assumption | wp_step)
      refine codeAny_mono (init_txts (A := A.in1) (E := E) (by simp [hh]) hl hit hb) fun r2 s2 hr2 => ?_
      cases r2 with
      | error e => exact hr2
      | ok fl2 =>
        cases fl2 with
        | ret r3 =>
          obtain ⟨rfl, g, tk, c, rfl, hf⟩ := hr2
          repeat any_goals (first | assumption | wp_step)
          exact h g tk c hf
        | _ => exact hr2.elim
    | _ => exact hr.elim
theorem perm_len : ∀ {l m : List Str}, l.Nodup → (∀ x ∈ l, x ∈ m) → l.length ≤ m.length
  | [], _, _, _ => Nat.zero_le _
  | x :: l, m, nd, sub => by
    obtain ⟨n1, n2⟩ := List.nodup_cons.mp nd
    have hx := sub x List.mem_cons_self
    have := perm_len (m := m.erase x) n2 fun y hy => (List.mem_erase_of_ne (fun e => n1 (by rw [← e]; exact hy))).mpr (sub y (List.mem_cons_of_mem _ hy))
    have := (List.perm_cons_erase hx).length_eq
    rw [List.length_cons] at *
    omega
theorem perm_nd : ∀ {l m : List Str}, l.Nodup → (∀ x ∈ l, x ∈ m) → m.length = l.length → m.Perm l
  | [], m, _, _, h => by rw [List.length_eq_zero_iff.mp h]
  | x :: l, m, nd, sub, h => by
    have hx := sub x List.mem_cons_self
    obtain ⟨n1, n2⟩ := List.nodup_cons.mp nd
    have p := List.perm_cons_erase hx
    refine p.trans (List.Perm.cons x (perm_nd n2 (fun y hy => (List.mem_erase_of_ne (fun e => n1 (by rw [← e]; exact hy))).mpr (sub y (List.mem_cons_of_mem _ hy))) ?_))
    have := p.length_eq
    rw [List.length_cons] at this h
    omega
def strOf : Value → Str
  | .str k _ => k
  | _ => ""
theorem txs_of : ∀ {us : List Value}, (∀ v ∈ us, ∃ k t, v = Value.str k t) → Txs us (us.map strOf)
  | [], _ => .nil
  | v :: us, h => .cons (by obtain ⟨k, t, rfl⟩ := h v List.mem_cons_self; exact ⟨t, rfl⟩) (txs_of fun u hu => h u (List.mem_cons_of_mem _ hu))
theorem txs_reads {h : Heap} : ∀ {us : List Value} {xs : List Str}, Txs us xs → EachIs (fun v b => ∃ as, Reads h v (pyS.py b) as ∧ ∀ q : Addr, q ∉ as) us xs
  | _, _, .nil => .nil
  | _, _, .cons h1 h2 => .cons (by obtain ⟨t, rfl⟩ := h1; exact ⟨[], .str _ _, fun q => List.not_mem_nil⟩) (txs_reads h2)
theorem sorted_setTx {a : Addr} {l : List Str} {Q : Value → Shared → Prop} (R : SetT P w s.heap a l) (hh : A.handled = none) (hb : l.length ≤ 1000) (hu : A.units + 64 < cLine)
    (hQ : ∀ s2 p (out : List Value) (c : Nat) (bs : List Str), (∀ b o, s.heap.get? b = some o → s2.heap.get? b = some o) → s2.gens = s.gens → s2.os = s.os → s.heap.objs.size ≤ p →
      s2.heap.get? p = some (seqObj "list" out.toArray c) → bs.Perm l → Txs out (bs.mergeSort (leD pyS)) → Q (.ref p) s2) :
    wpAny (model P w) A (call (.builtin "sorted") [.ref a]) Q E s := by
  obtain ⟨⟨es, ep, t⟩, ho, F, r, hl, nd⟩ := R
  have sz : es.size = l.length := F.sz
  have el : ElemsOf (strKind P w) es.toList := F.el
  have hsb : es.size < scanBound := by unfold scanBound; omega
  refine Calls.call_function_entry kind_sorted plain_sorted entry_sorted (args_sorted1 _) ?_
  unfold Builtin.«sorted»
  refine wpAny_bind (m := checkCount "sorted" 1 1 _) (wpAny_pure ?_)
  refine wpAny_bind (collect_set (A := A.in1) hh ⟨_, ho, rfl, rfl⟩ F.fit hsb r hl fun s1 vs k1 hz g1 o1 pm => ?_)
  have hvl : vs.length = l.length := by rw [pm.length_eq, List.length_map, Array.length_toList]; exact sz
  have all : ∀ v ∈ vs, ∃ k t, v = Value.str k t := fun v hv => by
    obtain ⟨e, he, q⟩ := List.mem_map.mp (pm.mem_iff.mp hv)
    obtain ⟨⟨k, h1, _⟩, _⟩ := el e he
    obtain ⟨t, e1⟩ := Value.isStrOf_shape (x := k) (v := e.2) h1
    exact ⟨k, t, q.symm.trans e1⟩
  have tx := txs_of all
  have hbs : (vs.map strOf).Perm l := perm_nd nd (fun x hx => by
    obtain ⟨e, he, q⟩ := (F.mem x).mp hx
    obtain ⟨t, e1⟩ := Value.isStrOf_shape (x := x) (v := e.2) q
    refine List.mem_map.mpr ⟨e.2, pm.mem_iff.mpr (List.mem_map.mpr ⟨e, he, rfl⟩), ?_⟩
    rw [e1]; rfl) (by rw [List.length_map]; exact hvl)
  generalize vs.map strOf = bs at tx hbs
  have bl : bs.length ≤ 1000 := by rw [hbs.length_eq]; exact hb
  refine wpAny_bind (wpAny_newList ?_ (by rw [hvl, sizeLine_eq]; omega))
  have hoL : (s1.heap.push (seqObj "list" vs.toArray 0)).get? s1.heap.objs.size = some (seqObj "list" vs.toArray 0) := Heap.get?_push_size _ rfl
  refine wpAny_bind (wpAny_holding (PySem.W.list_sort_data (A := A.in1) (s := { s1 with heap := s1.heap.push (seqObj "list" vs.toArray 0) }) (enc := pyS.py) (R := fun v b => ∃ t, v = Value.str b t) hoL tx ((txs_reads tx).mono fun _ _ ⟨as, h1, h2⟩ => ⟨as, h1, h2 _⟩) ?_ ?_ (by rw [sizeLine_eq]; omega) (fun b _ => ?_) fun out hol eo => ?_))
  · intro d hd d' hd'
    obtain ⟨b, _, rfl⟩ := List.mem_map.mp hd
    obtain ⟨b', _, rfl⟩ := List.mem_map.mp hd'
    exact pysS.al b b'
  · rcases pysS.so with h | h
    · exact .inl fun d hd => by
        obtain ⟨b, _, rfl⟩ := List.mem_map.mp hd
        exact h b
    · exact .inr fun d hd => by
        obtain ⟨b, _, rfl⟩ := List.mem_map.mp hd
        exact h b
  · have := pyS.dp b
    have : A.in1.units ≤ A.units + 1 := by simp [Around.in1]
    show _ + (pyS.py b).depth < _
    have h2 : pyS.dep = 0 := rfl
    omega
  · obtain ⟨c, hc⟩ := sortedHeap_at (vs := vs) (out := out.toArray) hoL
    refine wpAny_pure ?_
    refine ⟨_, rfl, hQ { s1 with heap := sortedHeap (s1.heap.push (seqObj "list" vs.toArray 0)) s1.heap.objs.size vs out.toArray } s1.heap.objs.size out c bs (fun b u e => ?_) g1 o1 hz hc hbs eo⟩
    have q := k1 b u e
    have hlt := Heap.lt_size q
    show (sortedHeap (s1.heap.push (seqObj "list" vs.toArray 0)) s1.heap.objs.size vs out.toArray).get? b = some u
    rw [sortedHeap_old (Nat.ne_of_lt hlt) (by rw [size_push']; exact Nat.lt_succ_of_lt hlt)]
    exact Heap.get?_push_of_some _ q
end
/-- the set of the texts l at a -/
def SetTO (P : Program) (w : World) (a : Addr) (l : List Str) : HO := .ext fun h => SetT P w h a l
theorem setTO_new {w : World} {P : Program} {H : Hp} {h : Heap} {a : Addr} {l : List Str} (R : SetT P w h a l) : ObjOk P w H h a (SetTO P w a l) := by
  have ⟨D, ho, _⟩ := R
  exact ⟨R, ⟨_, ho⟩, fun h1 h2 p k => setT_at p k⟩
theorem setTO_get {X : Cx} {pins : List (Addr × Obj)} {σ : L2.St} {H : Hp} {s : Shared} {a : Addr} {l : List Str} (I : Inv X pins σ H s) (ha : H a = some (SetTO X.prog X.w a l)) : SetT X.prog X.w s.heap a l := (I.hok a _ ha).1
theorem txs_vals : ∀ {xs : List Str} {us : List Value}, Vals (xs.map V.str) us → Txs us xs
  | [], _, r => by cases r; exact .nil
  | x :: xs, _, r => by
    cases r with
    | cons h1 h2 => exact .cons (by obtain ⟨t, e⟩ := h1; exact ⟨t, e⟩) (txs_vals h2)
theorem vals_txs : ∀ {xs : List Str} {us : List Value}, Txs us xs → Vals (xs.map V.str) us
  | _, _, .nil => .nil
  | _, _, .cons h1 h2 => .cons (by obtain ⟨t, e⟩ := h1; exact ⟨t, e⟩) (vals_txs h2)
def rSetS (X : Cx) : List V → Hp → VK → Prop := fun xs H Q => ∃ (l : Addr) (ns : List Str), xs = [V.ref l] ∧ SqL X.K H l (ns.map V.str) ∧ ns.length ≤ 1000 ∧ ∀ a c, H a = none → c.length ≤ ns.length → c.Nodup → (∀ x, x ∈ c ↔ x ∈ ns) → Q (.ref a) (upd H a (SetTO X.prog X.w a c))
theorem cr_setS {X : Cx} (hc : X.calm = true) : CallR X (.type "set") (rSetS X) := by
  intro pins s σ H xs us Q I r h
  obtain ⟨l, ns, rfl, hl, hlen, q⟩ := h
  rw [Vals.ref1 r]
  obtain ⟨its, rv, pl, _⟩ := I.list hl
  have hn : H s.heap.objs.size = none := I.hok.fresh (Nat.le_refl _)
  have hb : ns.length + 1 < scanBound := by unfold scanBound; omega
  refine call_set_txts (I.ok.hd hc) pl.isList (by simpa using txs_vals rv) hb fun g tk c hf => ?_
  have ⟨_, _, _, _, _, nd⟩ := hf.1
  exact ⟨.ref s.heap.objs.size, _, I.laid (t' := tk) hf.2.2.2 (Nat.le_refl _) (setTO_new hf.1), rfl, q _ c hn hf.2.1 nd hf.2.2.1⟩
/-- the texts of a list, each once, in order -/
def usS (xs : List Str) : List Str := (xs.foldr addU []).mergeSort (leD pyS)
theorem mem_us0 {x : Str} : ∀ {xs : List Str}, x ∈ xs.foldr addU [] ↔ x ∈ xs
  | [] => Iff.rfl
  | y :: xs => by rw [List.foldr_cons, mem_addU, mem_us0, List.mem_cons]
theorem nd_us0 : ∀ {xs : List Str}, (xs.foldr addU []).Nodup
  | [] => List.nodup_nil
  | y :: xs => by
    rw [List.foldr_cons]
    unfold addU
    split
    · exact nd_us0
    · rename_i h
      exact List.nodup_cons.mpr ⟨h, nd_us0⟩
theorem leD_str (a b : Str) : leD pyS a b = decide (a.cps.toList ≤ b.cps.toList) := by
  show (!PySem.W.dataLt (.str b) (.str a)) = _
  rw [PySem.W.dataLt_str, Bool.eq_iff_iff]
  simp only [Bool.not_eq_true', decide_eq_false_iff_not, decide_eq_true_eq]
  exact List.not_lt
theorem leS_trans (a b c : Str) (h1 : leD pyS a b = true) (h2 : leD pyS b c = true) : leD pyS a c = true := by
  rw [leD_str] at *
  exact decide_eq_true (List.le_trans (of_decide_eq_true h1) (of_decide_eq_true h2))
theorem leS_total (a b : Str) : (leD pyS a b || leD pyS b a) = true := by
  rw [leD_str, leD_str, Bool.or_eq_true, decide_eq_true_eq, decide_eq_true_eq]
  exact List.le_total _ _
theorem leS_anti {a b : Str} (h1 : leD pyS a b = true) (h2 : leD pyS b a = true) : a = b := by
  rw [leD_str] at h1 h2
  have e := List.le_antisymm (of_decide_eq_true h1) (of_decide_eq_true h2)
  cases a; cases b
  congr 1
  exact Array.toList_inj.mp e
theorem srtS_eq {bs l : List Str} (p : bs.Perm l) : bs.mergeSort (leD pyS) = l.mergeSort (leD pyS) :=
  List.Perm.eq_of_pairwise (le := fun a b => leD pyS a b = true) (fun _ _ _ _ h1 h2 => leS_anti h1 h2) (List.pairwise_mergeSort leS_trans leS_total _) (List.pairwise_mergeSort leS_trans leS_total _) ((List.mergeSort_perm _ _).trans (p.trans (List.mergeSort_perm _ _).symm))
def rSortedT (X : Cx) : List V → Hp → VK → Prop := fun vs H Q => ∃ (a : Addr) (l : List Str), vs = [V.ref a] ∧ H a = some (SetTO X.prog X.w a l) ∧ l.length ≤ 1000 ∧
  ∀ (bs : List Str) (p : Addr), bs.Perm l → H p = none → Q (.ref p) (upd H p (.lst ((bs.mergeSort (leD pyS)).map V.str)))
theorem cr_sortedTx {X : Cx} (hc : X.calm = true) (hu : X.A.units + 64 < cLine) : CallR X (.builtin "sorted") (rSortedT X) := by
  intro pins s σ H vs us Q I r h
  obtain ⟨a, l, rfl, ha, hl, q⟩ := h
  rw [Vals.ref1 r]
  refine sorted_setTx (setTO_get I ha) (I.ok.hd hc) hl hu fun s2 p out c bs k g o hp hg pm tx => ?_
  have hlen : ((bs.mergeSort (leD pyS)).map V.str).length ≤ sizeLine := by rw [List.length_map, List.length_mergeSort, pm.length_eq, sizeLine_eq]; omega
  have hn : H p = none := I.hok.fresh hp
  have J : Inv X pins σ (upd H p (.lst ((bs.mergeSort (leD pyS)).map V.str))) { s with heap := s2.heap, gens := s2.gens, drawn := s2.drawn, toks := s2.toks } :=
    I.call (ch := []) (Un.laid k hp hn) (I.hok.laid k hp ⟨hlen, out, c, vals_txs tx, hg⟩) (by rw [g]; exact I.bare) (fun _ z => nomatch z)
  have e : s2 = { s with heap := s2.heap, gens := s2.gens, drawn := s2.drawn, toks := s2.toks } := by
    cases s2; cases s; cases o; rfl
  rw [e]
  exact ⟨.ref p, _, J, rfl, q bs p pm hn⟩
def psrtSetS (xs : List Str) : Res (List Str) := guard (xs.length ≤ 1000) (usS xs)
section
variable {X : Cx} {T : Bool} {τ : TEnv} {M : Mem} {P : PK'} {E : XKx} {e a b : Expr} {pos p p1 p2 p3 q : Pos} {E1 : Er → Prop}
theorem ex_srtSetS (hm1 : X.mg "sorted" = none) (hm2 : X.mg "set" = none) (hu : X.A.units + 64 < cLine) (h : EX X false e τ M (fun d M1 => ∃ ns, LsD M1 d (ns.map Dat.str) ∧ ∃ Q, (psrtSetS ns).Out Q E1 ∧ ∀ z, Q z → P (lstD Dat.str z) M1) E) (hc : X.calm = true := by rfl)
    (hg1 : Gl X "sorted" := by rfl) (hg2 : Gl X "set" := by rfl) (s1 : starEach [.Call (.Name "set" p2) [e] [] q] X.env = (false, eval (.Call (.Name "set" p2) [e] [] q) X.env) :: starEach [] X.env := by rfl) (s2 : starEach [e] X.env = (false, eval e X.env) :: starEach [] X.env := by rfl)
    (b1 : (backTo pos (starEach [] X.env)).any (·.1) = false := by rfl) (b2 : (backTo q (starEach [] X.env)).any (·.1) = false := by rfl) :
    EX X T (.Call (.Name "sorted" p1) [.Call (.Name "set" p2) [e] [] q] [] pos) τ M P E := .mk fun W tk σ G H hE hH Q hP hX => by
  refine tW_of (pe_callB (cr_sortedTx hc hu) hg1 hm1 PyProof.Rows.Boot.«sorted» (pa_cons (pe_callTy (cr_setS hc) hg2 hm2 PyProof.Rows.Boot.«set» (pa_cons pe_W pa_nil s2) (by decide) (by decide) s2 b2) pa_nil s1) (by decide) (by decide) s1 b1) ?_
  change tW X false e σ H _
  refine h.run W tk σ G H hE hH _ (fun d M1 v G1 H1 ⟨ns, l, Q', hq, hk⟩ t1 h1 dv => ?_) hX
  obtain ⟨r, us, rfl, g, dl⟩ := l.get h1 dv
  rw [dl.strs] at g
  have hl := (gd hq).1
  refine ⟨r, ns, rfl, SqL.of g, by omega, fun a c ha hcl nd mem => ?_⟩
  obtain ⟨t2, h2⟩ := Stp.new (o := SetTO X.prog X.w a c) h1 ha
  refine ⟨a, c, rfl, upd_same, by omega, fun bs b pm hb => ?_⟩
  have e : bs.mergeSort (leD pyS) = usS ns := srtS_eq (pm.trans (perm_nd nd_us0 (fun x hx => (mem x).mpr (mem_us0.mp hx)) (Nat.le_antisymm (perm_len nd fun x hx => mem_us0.mpr ((mem x).mp hx)) (perm_len nd_us0 fun x hx => (mem x).mpr (mem_us0.mp hx)))))
  rw [e]
  obtain ⟨t3, h3⟩ := Stp.new (o := .lst ((usS ns).map V.str)) h2 hb
  exact hP _ _ _ _ _ (hk _ (gd hq).2) ((t1.trans t2).trans t3) h3 (den_lst upd_same denL_strs)
end
end Kh

set_option Elab.async false
set_option linter.all false
set_option maxRecDepth 100000
set_option maxHeartbeats 4000000
namespace Kh
open PySem PySem.Spec PyProof.Rows L2
/-! ### list(a dict) -/
section
variable {P : Program} {w : World} {A : Around} {E : Value → Shared → Prop} {s : Shared} {κ : Type} [DecidableEq κ] {knd : PySem.KeyKind P w κ}
/-- a dict's keys as a list's items -/
abbrev KeysAt (knd : PySem.KeyKind P w κ) (kvs : List (κ × Value)) (i : Nat) (v : Value) : Prop := ∃ k x, kvs[i]? = some (k, x) ∧ knd.is k v = true
theorem extend_dict {R : Result → Shared → Prop} (hh : A.handled = none) {d S : Addr} {kvs : List (κ × Value)} {ep c0 : Nat} (sm : (d == sysModules) = false) (hm : s.heap.DictAt knd d kvs ep) (hl : kvs.length ≤ sizeLine) (ne : S ≠ d) (res : Value) (hS : s.heap.get? S = some { cls := .type "list", data := .seq #[] c0 })
    (hR : ∀ g tk acc c, (∀ b o, b ≠ S → s.heap.get? b = some o → g.get? b = some o) → g.get? S = some { cls := .type "list", dict := none, data := .seq acc c, slots := #[] } → ItemsOf (KeysAt knd kvs) acc kvs.length → R (.ok (.ret res)) { s with heap := g, toks := tk }) :
    wpAny (model P w) A.in1 (Builtin.List.listExtendWith (.ref S) (.ref d) res) (fun fin s2 => match fin with | .done f => R (.ok f) s2 | .again c => c.quiet = true ∧ codeAny (model P w) A c R s2) (fun e s2 => R (.error e) s2) s := by
  have hT : s.TypeIs (.ref d) "dict" := hm.dictOf.typeIs
  have SI : S ≠ s.heap.objs.size := Nat.ne_of_lt (Heap.lt_size hS)
  have dI : d ≠ s.heap.objs.size := Nat.ne_of_lt hm.lt_size
  have Sf : S ∉ [s.heap.objs.size, d] := fun z => (List.mem_cons.mp z).elim SI fun z => ne (List.mem_singleton.mp z)
  unfold Builtin.List.listExtendWith; refine wpAny_bind (wpAny_typeOf (T := "dict") hT ?_)
  have h1 : Builtin.List.listSameRef (.ref S) (.ref d) = false := by simp [Builtin.List.listSameRef, ne]
  have h2 : (Value.type "dict" == Value.type "list") = false := by decide
  have h3 : (Value.type "dict" == Value.type "tuple") = false := by decide
  simp only [h1, h2, h3, Bool.or_false, Bool.false_eq_true, if_false]; refine wpAny_bind (wpAny_pyIter_dict sm hm ?_)
  generalize hIt : ({ cls := .type "dict_keyiterator", data := .fields #[.ref d, .int 0 0, .int kvs.length 0, .int ep 0] } : Obj) = it
  have hm2 : (s.heap.push it).DictAt knd d kvs ep := hm.push it
  have hT2 : Shared.TypeIs { s with heap := s.heap.push it } (.ref d) "dict" := hm2.dictOf.typeIs
  have hS2 : (s.heap.push it).get? S = some { cls := .type "list", data := .seq #[] c0 } := Heap.get?_push_of_some _ hS
  have st : (s.heap.push it).IsKeyIter s.heap.objs.size d 0 kvs.length ep := by subst hIt; exact ⟨_, Heap.get?_push_size _ rfl, rfl, rfl⟩
  refine wpAny_bind (wpAny_holding ?_); unfold Builtin.List.listLengthHint
  refine wpAny_bind (wpAny_specialOf hT2 F.slot_dict_len.lookup ?_)
  (generalize hid : ("dict.__len__" : String) = id0; (fail_if_success (clear hid id0)); wp_delta; rw [show splitId id0 = some ("dict", "__len__") from by subst hid; decide +kernel]; subst hid)
  refine wpAny_bind (wpAny_isInstance (b := true) hT2 (by rw [isSubtype_type]; kernel_rfl) ?_)
  show wpAny _ A.in1 (typeOf (.ref d) >>= _) _ _ _
  refine wpAny_bind (wpAny_typeOf hT2 ?_); refine wpAny_pure ?_
  show wpAny _ A.in1 (rule "list.extend.makes-room" >>= fun _ => Builtin.List.listTouch (.ref S) >>= fun _ => again (.builtin "list.extend.loop" ⟨[.ref S, .ref s.heap.objs.size, res], []⟩)) _ _ _
  refine wpAny_bind (wpAny_rule (wpAny_bind ?_))
  show wpAny _ A.in1 (updateSeq S (·.push .none) >>= fun _ => updateSeq S (·.pop)) _ _ _
  refine wpAny_bind (wpAny_updateSeq hS2 rfl ?_)
  have hS3 := Heap.get?_update_self (Obj.mapSeq (·.push Value.none)) hS2 rfl
  refine wpAny_updateSeq hS3 rfl ?_
  have hS4 := Heap.get?_update_self (Obj.mapSeq (·.pop)) hS3 rfl
  have oth : ∀ b u, b ≠ S → (s.heap.push it).get? b = some u → (((s.heap.push it).update S (Obj.mapSeq (·.push Value.none))).update S (Obj.mapSeq (·.pop))).get? b = some u :=
    fun b u hb e => (Heap.get?_update_other _ _ (Ne.symm hb)).trans ((Heap.get?_update_other _ _ (Ne.symm hb)).trans e)
  have W := Walks.dictKeys (knd := knd) (prog := P) (w := w) (A := A.in1) hh s.heap.objs.size d dI kvs ep
  have st2 := W.frame 0 _ _ ⟨st, hm2⟩ fun b hb u e => oth b u (fun z => Sf (z ▸ hb)) e
  refine wpAny_pure ⟨plainId_quiet F.plain_extend_loop _, codeAny_extend_loopS W.toS hl _ Sf _ kvs.length 0 _ _ _ rfl (Nat.zero_le _) st2 hS4 (ItemsOf.nil _) fun s2 acc c mv hS5 hacc => ?_⟩
  rw [Moved.eq_with mv]
  refine hR s2.heap s2.toks acc c (fun b u hb e => mv.heap b u (fun z => ?_) (oth b u hb (Heap.get?_push_of_some _ e))) hS5 hacc
  rcases List.mem_cons.mp z with z | z
  · exact hb z
  · exact absurd (Heap.lt_size e) (by rw [List.mem_singleton.mp z]; exact Nat.lt_irrefl _)
theorem init_dict {R : Result → Shared → Prop} (hh : A.handled = none) {d S : Addr} {kvs : List (κ × Value)} {ep : Nat} (sm : (d == sysModules) = false) (hm : s.heap.DictAt knd d kvs ep) (hl : kvs.length ≤ sizeLine) (ne : S ≠ d) (hS : s.heap.get? S = some { cls := .type "list", data := .seq #[] })
    (hR : ∀ g tk acc c, (∀ b o, b ≠ S → s.heap.get? b = some o → g.get? b = some o) → g.get? S = some { cls := .type "list", dict := none, data := .seq acc c, slots := #[] } → ItemsOf (KeysAt knd kvs) acc kvs.length → R (.ok (.ret .none)) { s with heap := g, toks := tk }) :
    wpAny (model P w) A.in1 (Builtin.«list.__init__» ⟨[.ref S, .ref d], []⟩) (fun fin s2 => match fin with | .done f => R (.ok f) s2 | .again c => c.quiet = true ∧ codeAny (model P w) A c R s2) (fun e s2 => R (.error e) s2) s := by
  show wpAny _ _ (do let had ← Builtin.List.listItems (.ref S); Builtin.List.listUpdate (.ref S) (fun _ => #[]); letGo had.toList.reverse; Builtin.List.listExtendWith (.ref S) (.ref d) .none) _ _ s
  refine wpAny_bind ?_; unfold Builtin.List.listItems
  refine wpAny_bind (wpAny_seqItems hS rfl (wpAny_pure ?_))
  show wpAny _ _ (updateSeq S (fun _ => #[]) >>= fun _ => letGo (#[] : Array Value).toList.reverse >>= fun _ => Builtin.List.listExtendWith (.ref S) (.ref d) .none) _ _ s
  refine wpAny_bind (wpAny_updateSeq hS rfl ?_)
  have hS2 := Heap.get?_update_self (Obj.mapSeq (fun _ => (#[] : Array Value))) hS rfl
  have oth : ∀ b o, b ≠ S → s.heap.get? b = some o → (s.heap.update S (Obj.mapSeq (fun _ => (#[] : Array Value)))).get? b = some o := fun b o hb e => (Heap.get?_update_other _ _ (Ne.symm hb)).trans e
  refine wpAny_bind (wpAny_letGo (extend_dict (knd := knd) hh sm (hm.at' fun o e => oth d o (Ne.symm ne) e) hl ne .none hS2 fun g tk acc c k hS3 hacc => ?_))
  exact hR g tk acc c (fun b o hb e => k b o hb (oth b o hb e)) hS3 hacc
theorem call_list_dict {Q : Value → Shared → Prop} (hh : A.handled = none) {d : Addr} {kvs : List (κ × Value)} {ep : Nat} (sm : (d == sysModules) = false) (hm : s.heap.DictAt knd d kvs ep) (hl : kvs.length ≤ sizeLine)
    (hQ : ∀ g tk acc c, (∀ b o, s.heap.get? b = some o → g.get? b = some o) → g.get? s.heap.objs.size = some { cls := .type "list", dict := none, data := .seq acc c, slots := #[] } → ItemsOf (KeysAt knd kvs) acc kvs.length → Q (.ref s.heap.objs.size) { s with heap := g, toks := tk }) :
    wpAny (model P w) A (call (.type "list") [.ref d]) Q E s := by
  refine callType_codes (Q₁ := fun v s1 => v = .ref s.heap.objs.size ∧ s1 = { s with heap := s.heap.push { cls := .type "list", data := .seq #[] } }) F.called_list (F.typeCall_list_1 _) F.entry_list_init (code_list_new _ ⟨rfl, rfl⟩) fun v s1 h1 => ?_
  obtain ⟨rfl, rfl⟩ := h1
  have hS : (s.heap.push { cls := .type "list", data := .seq #[] }).get? s.heap.objs.size = some { cls := .type "list", data := .seq #[] } := Heap.get?_push_size _ rfl
  refine ⟨⟨_, hS, rfl⟩, F.args_list_init_2 _ _, init_dict (knd := knd) (A := A.in1) hh sm (hm.push _) hl (Ne.symm (Nat.ne_of_lt hm.lt_size)) hS fun g tk acc c k hS2 hacc => ?_⟩
  exact ⟨rfl, hQ g tk acc c (fun b o e => k b o (Nat.ne_of_lt (Heap.lt_size e)) (Heap.get?_push_of_some _ e)) hS2 hacc⟩
end
theorem key_rel {k : Key} {v : Value} (h : keyIs k v = true) : RelV (kV k) v := by
  rcases keyIs_shape h with ⟨i, t, rfl, rfl⟩ | ⟨x, t, rfl, rfl⟩
  · exact ⟨t, rfl⟩
  · exact ⟨t, rfl⟩
theorem vals_keys : ∀ {vs : List (Key × Value)} {us : List Value}, us.length = vs.length → (∀ (i : Nat) (v : Value), us[i]? = some v → ∃ k x, vs[i]? = some (k, x) ∧ keyIs k v = true) → Vals (vs.map fun p => kV p.1) us
  | [], [], _, _ => .nil
  | [], _ :: _, h, _ => by simp at h
  | _ :: _, [], h, _ => by simp at h
  | p :: vs, u :: us, h, f => by
    obtain ⟨k, x, e, r⟩ := f 0 u rfl
    obtain rfl : p = (k, x) := Option.some.inj e
    exact .cons (key_rel r) (vals_keys (by simpa using h) fun i v hv => f (i + 1) v hv)
theorem cr_listD {X : Cx} (hc : X.calm = true) : CallR X (.type "list") (fun xs H Q => ∃ a kvs, xs = [V.ref a] ∧ H a = some (.dK kvs) ∧ ∀ l, H l = none → Q (.ref l) (upd H l (.lst (kvs.map fun p => kV p.1)))) := by
  intro pins s σ H xs us Q I r h
  obtain ⟨a, kvs, rfl, ha, q⟩ := h
  rw [Vals.ref1 r]
  obtain ⟨hz, sm, vs, kv, ob, es, ep, ho, hx, hd, hk, hp, nd⟩ := dk_of I.hok ha
  have dat : s.heap.DictAt (mixKind X.prog X.w) a vs ep := ⟨ob, es, ho, hx, hd, hk, hp, nd⟩
  refine call_list_dict (knd := mixKind X.prog X.w) (I.ok.hd hc) sm dat (by rw [← kv.length]; exact hz) fun g tk acc c kp hg hacc => ?_
  have rv : Vals (kvs.map fun p => kV p.1) acc.toList := by
    have e : (kvs.map fun p => kV p.1) = vs.map fun p => kV p.1 := by
      have q := congrArg (List.map kV) kv.keys
      rw [List.map_map, List.map_map] at q
      exact q
    rw [e]
    exact vals_keys (by rw [Array.length_toList]; exact hacc.1) fun i v hv => hacc.2 i v (by rw [← Array.getElem?_toList]; exact hv)
  exact ⟨.ref s.heap.objs.size, _, I.laid (t' := tk) kp (Nat.le_refl _) (show ObjOk X.prog X.w _ g _ (.lst _) from ⟨by rw [List.length_map]; exact hz, acc.toList, c, rv, hg⟩), rfl, q _ (I.hok.fresh (Nat.le_refl _))⟩
theorem dicS_keys {K : PySem.W.Frag} {G : Hp} {β : Type} {f : β → Dat} : ∀ {ds : List (Str × β)} {vs : List (Key × V)}, DenF K G (dicG kyS f ds) vs → vs.map (fun p => kV p.1) = (ds.map (·.1)).map V.str := fun {ds vs} h => by
  have e : vs.map (fun p => kV p.1) = (vs.map (·.1)).map kV := by rw [List.map_map]; rfl
  rw [e, h.1]
  unfold dicG
  rw [List.map_map, List.map_map, List.map_map]
  rfl
theorem c_listD {X : Cx} {M : Mem} {P : PK'} {β : Type} (f : β → Dat) {ds : List (Str × β)} {q : Addr} (hm : (q, MC.dic (dicG kyS f ds)) ∈ M) (h : P (lstD Dat.str (ds.map (·.1))) M) (hc : X.calm = true := by rfl) : BC X (.type "list") [.raw (.ref q)] M P := bc_of (cr_listD hc) fun G H vs hH dv Q hP => by
  obtain ⟨v, rfl, d⟩ := one_inv dv
  obtain ⟨ws, g, df⟩ := hH.mem _ hm
  refine ⟨q, ws, by rw [d.raw_inv], g, fun r hr => ?_⟩
  rw [dicS_keys df]
  obtain ⟨s2, h2⟩ := Stp.new (o := .lst ((ds.map (·.1)).map V.str)) hH hr
  exact hP _ _ _ _ _ h s2 h2 (den_lst upd_same denL_strs)
end Kh

set_option Elab.async false
set_option linter.all false
set_option maxRecDepth 100000
set_option maxHeartbeats 2000000
namespace Kh
open PySem PySem.Spec L2
open PySem.W (Frag ksFn)
def top (i : Nat) : Stmt := PySem.Challenge.pw_keptholes_k52_copies_by_all_moments.main.body.getD i (.Pass ⟨0, 0, 0, 0⟩)
abbrev s_is_whole : Stmt := top 10
abbrev N_is_whole : List Str := ["value"]
abbrev P_is_whole : List Str := ["value"]
theorem sc_is_whole : FnScope N_is_whole P_is_whole (defScope s_is_whole) := ⟨rfl, rfl, rfl, by decide +kernel, rfl, by decide +kernel, by decide +kernel⟩
abbrev s_check_least : Stmt := top 11
abbrev N_check_least : List Str := ["value", "least"]
abbrev P_check_least : List Str := ["value", "least"]
theorem sc_check_least : FnScope N_check_least P_check_least (defScope s_check_least) := ⟨rfl, rfl, rfl, by decide +kernel, rfl, by decide +kernel, by decide +kernel⟩
abbrev s_check_within : Stmt := top 12
abbrev N_check_within : List Str := ["value", "first", "last"]
abbrev P_check_within : List Str := ["value", "first", "last"]
theorem sc_check_within : FnScope N_check_within P_check_within (defScope s_check_within) := ⟨rfl, rfl, rfl, by decide +kernel, rfl, by decide +kernel, by decide +kernel⟩
abbrev s_are_cells : Stmt := top 15
abbrev N_are_cells : List Str := ["value", "cell"]
abbrev P_are_cells : List Str := ["value"]
theorem sc_are_cells : FnScope N_are_cells P_are_cells (defScope s_are_cells) := ⟨rfl, rfl, rfl, by decide +kernel, rfl, by decide +kernel, by decide +kernel⟩
abbrev s_is_content : Stmt := top 16
abbrev N_is_content : List Str := ["value", "cell"]
abbrev P_is_content : List Str := ["value"]
theorem sc_is_content : FnScope N_is_content P_is_content (defScope s_is_content) := ⟨rfl, rfl, rfl, by decide +kernel, rfl, by decide +kernel, by decide +kernel⟩
abbrev s_check_file : Stmt := top 18
abbrev N_check_file : List Str := ["value"]
abbrev P_check_file : List Str := ["value"]
theorem sc_check_file : FnScope N_check_file P_check_file (defScope s_check_file) := ⟨rfl, rfl, rfl, by decide +kernel, rfl, by decide +kernel, by decide +kernel⟩
abbrev s_blocks_of : Stmt := top 20
abbrev N_blocks_of : List Str := ["cells", "size", "at"]
abbrev P_blocks_of : List Str := ["cells", "size"]
theorem sc_blocks_of : FnScope N_blocks_of P_blocks_of (defScope s_blocks_of) := ⟨rfl, rfl, rfl, by decide +kernel, rfl, by decide +kernel, by decide +kernel⟩
abbrev s_is_write : Stmt := top 22
abbrev N_is_write : List Str := ["value", "length"]
abbrev P_is_write : List Str := ["value", "length"]
theorem sc_is_write : FnScope N_is_write P_is_write (defScope s_is_write) := ⟨rfl, rfl, rfl, by decide +kernel, rfl, by decide +kernel, by decide +kernel⟩
abbrev s_check_write : Stmt := top 23
abbrev N_check_write : List Str := ["value", "length"]
abbrev P_check_write : List Str := ["value", "length"]
theorem sc_check_write : FnScope N_check_write P_check_write (defScope s_check_write) := ⟨rfl, rfl, rfl, by decide +kernel, rfl, by decide +kernel, by decide +kernel⟩
abbrev s_written : Stmt := top 24
abbrev N_written : List Str := ["row", "begin", "text"]
abbrev P_written : List Str := ["row", "begin", "text"]
theorem sc_written : FnScope N_written P_written (defScope s_written) := ⟨rfl, rfl, rfl, by decide +kernel, rfl, by decide +kernel, by decide +kernel⟩
abbrev s_check_content : Stmt := top 26
abbrev N_check_content : List Str := ["value", "history"]
abbrev P_check_content : List Str := ["value", "history"]
theorem sc_check_content : FnScope N_check_content P_check_content (defScope s_check_content) := ⟨rfl, rfl, rfl, by decide +kernel, rfl, by decide +kernel, by decide +kernel⟩
abbrev s_check_history : Stmt := top 27
abbrev N_check_history : List Str := ["value"]
abbrev P_check_history : List Str := ["value"]
theorem sc_check_history : FnScope N_check_history P_check_history (defScope s_check_history) := ⟨rfl, rfl, rfl, by decide +kernel, rfl, by decide +kernel, by decide +kernel⟩
abbrev s_check_asked : Stmt := top 29
abbrev N_check_asked : List Str := ["history", "size"]
abbrev P_check_asked : List Str := ["history", "size"]
theorem sc_check_asked : FnScope N_check_asked P_check_asked (defScope s_check_asked) := ⟨rfl, rfl, rfl, by decide +kernel, rfl, by decide +kernel, by decide +kernel⟩
abbrev s_columns_of : Stmt := top 30
abbrev N_columns_of : List Str := ["states", "size", "rows", "state", "at", "row"]
abbrev P_columns_of : List Str := ["states", "size"]
theorem sc_columns_of : FnScope N_columns_of P_columns_of (defScope s_columns_of) := ⟨rfl, rfl, rfl, by decide +kernel, rfl, by decide +kernel, by decide +kernel⟩
abbrev s_columns_along : Stmt := top 31
abbrev N_columns_along : List Str := ["states", "size", "down"]
abbrev P_columns_along : List Str := ["states", "size", "down"]
theorem sc_columns_along : FnScope N_columns_along P_columns_along (defScope s_columns_along) := ⟨rfl, rfl, rfl, by decide +kernel, rfl, by decide +kernel, by decide +kernel⟩
abbrev s_earliest : Stmt := top 32
abbrev N_earliest : List Str := ["history", "size", "content", "down", "columns", "wanted", "order", "moments", "last", "block", "fits", "t"]
abbrev P_earliest : List Str := ["history", "size", "content", "down"]
theorem sc_earliest : FnScope N_earliest P_earliest (defScope s_earliest) := ⟨rfl, rfl, rfl, by decide +kernel, rfl, by decide +kernel, by decide +kernel⟩
abbrev s_copy_moments : Stmt := top 33
abbrev N_copy_moments : List Str := ["history", "size", "content", "down"]
abbrev P_copy_moments : List Str := ["history", "size", "content", "down"]
theorem sc_copy_moments : FnScope N_copy_moments P_copy_moments (defScope s_copy_moments) := ⟨rfl, rfl, rfl, by decide +kernel, rfl, by decide +kernel, by decide +kernel⟩
abbrev s_late_block : Stmt := top 34
abbrev N_late_block : List Str := ["history", "size", "content", "down"]
abbrev P_late_block : List Str := ["history", "size", "content", "down"]
theorem sc_late_block : FnScope N_late_block P_late_block (defScope s_late_block) := ⟨rfl, rfl, rfl, by decide +kernel, rfl, by decide +kernel, by decide +kernel⟩
abbrev s_readings : Stmt := top 35
abbrev N_readings : List Str := ["column", "t", "found", "at", "text"]
abbrev P_readings : List Str := ["column", "t"]
theorem sc_readings : FnScope N_readings P_readings (defScope s_readings) := ⟨rfl, rfl, rfl, by decide +kernel, rfl, by decide +kernel, by decide +kernel⟩
abbrev s_counts_of : Stmt := top 36
abbrev N_counts_of : List Str := ["columns", "places", "found", "column", "t", "text", "at"]
abbrev P_counts_of : List Str := ["columns", "places"]
theorem sc_counts_of : FnScope N_counts_of P_counts_of (defScope s_counts_of) := ⟨rfl, rfl, rfl, by decide +kernel, rfl, by decide +kernel, by decide +kernel⟩
abbrev s_content_of : Stmt := top 37
abbrev N_content_of : List Str := ["columns", "counts", "number", "found", "t", "block", "column", "text", "at", "many"]
abbrev P_content_of : List Str := ["columns", "counts", "number"]
theorem sc_content_of : FnScope N_content_of P_content_of (defScope s_content_of) := ⟨rfl, rfl, rfl, by decide +kernel, rfl, by decide +kernel, by decide +kernel⟩
abbrev s_number_of : Stmt := top 38
abbrev N_number_of : List Str := ["columns", "counts", "wanted", "number", "t", "block", "column", "places", "text", "at"]
abbrev P_number_of : List Str := ["columns", "counts", "wanted"]
theorem sc_number_of : FnScope N_number_of P_number_of (defScope s_number_of) := ⟨rfl, rfl, rfl, by decide +kernel, rfl, by decide +kernel, by decide +kernel⟩
abbrev s_copy_count : Stmt := top 39
abbrev N_copy_count : List Str := ["history", "size", "down", "columns"]
abbrev P_copy_count : List Str := ["history", "size", "down"]
theorem sc_copy_count : FnScope N_copy_count P_copy_count (defScope s_copy_count) := ⟨rfl, rfl, rfl, by decide +kernel, rfl, by decide +kernel, by decide +kernel⟩
abbrev s_copy_at : Stmt := top 40
abbrev N_copy_at : List Str := ["history", "size", "number", "down", "columns", "counts"]
abbrev P_copy_at : List Str := ["history", "size", "number", "down"]
theorem sc_copy_at : FnScope N_copy_at P_copy_at (defScope s_copy_at) := ⟨rfl, rfl, rfl, by decide +kernel, rfl, by decide +kernel, by decide +kernel⟩
abbrev s_copy_number : Stmt := top 41
abbrev N_copy_number : List Str := ["history", "size", "content", "down", "columns"]
abbrev P_copy_number : List Str := ["history", "size", "content", "down"]
theorem sc_copy_number : FnScope N_copy_number P_copy_number (defScope s_copy_number) := ⟨rfl, rfl, rfl, by decide +kernel, rfl, by decide +kernel, by decide +kernel⟩
abbrev s_law_spring : Stmt := top 43
abbrev N_law_spring : List Str := ["script", "at", "cell", "great", "high", "low", "held", "turn"]
abbrev P_law_spring : List Str := ["script", "at"]
theorem sc_law_spring : FnScope N_law_spring P_law_spring (defScope s_law_spring) := ⟨rfl, rfl, rfl, by decide +kernel, rfl, by decide +kernel, by decide +kernel⟩
abbrev s_law_sip : Stmt := top 44
abbrev N_law_sip : List Str := ["spring", "many", "digit"]
abbrev P_law_sip : List Str := ["spring", "many"]
theorem sc_law_sip : FnScope N_law_sip P_law_sip (defScope s_law_sip) := ⟨rfl, rfl, rfl, by decide +kernel, rfl, by decide +kernel, by decide +kernel⟩
abbrev s_law_cells : Stmt := top 45
abbrev N_law_cells : List Str := ["spring", "length", "signs", "at"]
abbrev P_law_cells : List Str := ["spring", "length"]
theorem sc_law_cells : FnScope N_law_cells P_law_cells (defScope s_law_cells) := ⟨rfl, rfl, rfl, by decide +kernel, rfl, by decide +kernel, by decide +kernel⟩
abbrev s_law_text : Stmt := top 46
abbrev N_law_text : List Str := ["spring", "length", "signs", "at"]
abbrev P_law_text : List Str := ["spring", "length"]
theorem sc_law_text : FnScope N_law_text P_law_text (defScope s_law_text) := ⟨rfl, rfl, rfl, by decide +kernel, rfl, by decide +kernel, by decide +kernel⟩
abbrev s_law_writes : Stmt := top 47
abbrev N_law_writes : List Str := ["spring", "length", "most", "found", "turn", "begin", "most_cells", "size"]
abbrev P_law_writes : List Str := ["spring", "length", "most"]
theorem sc_law_writes : FnScope N_law_writes P_law_writes (defScope s_law_writes) := ⟨rfl, rfl, rfl, by decide +kernel, rfl, by decide +kernel, by decide +kernel⟩
abbrev s_law_states : Stmt := top 48
abbrev N_law_states : List Str := ["cells", "writes", "found", "begin", "text", "last"]
abbrev P_law_states : List Str := ["cells", "writes"]
theorem sc_law_states : FnScope N_law_states P_law_states (defScope s_law_states) := ⟨rfl, rfl, rfl, by decide +kernel, rfl, by decide +kernel, by decide +kernel⟩
abbrev s_law_blocks : Stmt := top 49
abbrev N_law_blocks : List Str := ["content", "size", "at"]
abbrev P_law_blocks : List Str := ["content", "size"]
theorem sc_law_blocks : FnScope N_law_blocks P_law_blocks (defScope s_law_blocks) := ⟨rfl, rfl, rfl, by decide +kernel, rfl, by decide +kernel, by decide +kernel⟩
abbrev s_law_early : Stmt := top 50
abbrev N_law_early : List Str := ["states", "size", "content", "back", "wanted", "rows", "spots", "moments", "last", "spot", "fits", "state", "t"]
abbrev P_law_early : List Str := ["states", "size", "content", "back"]
theorem sc_law_early : FnScope N_law_early P_law_early (defScope s_law_early) := ⟨rfl, rfl, rfl, by decide +kernel, rfl, by decide +kernel, by decide +kernel⟩
abbrev s_law_walks : Stmt := top 51
abbrev N_law_walks : List Str := ["many", "blocks", "found", "turn", "rows", "row", "t"]
abbrev P_law_walks : List Str := ["many", "blocks"]
theorem sc_law_walks : FnScope N_law_walks P_law_walks (defScope s_law_walks) := ⟨rfl, rfl, rfl, by decide +kernel, rfl, by decide +kernel, by decide +kernel⟩
abbrev s_law_read : Stmt := top 52
abbrev N_law_read : List Str := ["states", "size", "walk", "back", "rows", "moments", "state", "spot"]
abbrev P_law_read : List Str := ["states", "size", "walk", "back"]
theorem sc_law_read : FnScope N_law_read P_law_read (defScope s_law_read) := ⟨rfl, rfl, rfl, by decide +kernel, rfl, by decide +kernel, by decide +kernel⟩
abbrev s_law_mixes : Stmt := top 53
abbrev N_law_mixes : List Str := ["states", "size", "found", "spot", "longer", "text", "state", "content"]
abbrev P_law_mixes : List Str := ["states", "size"]
theorem sc_law_mixes : FnScope N_law_mixes P_law_mixes (defScope s_law_mixes) := ⟨rfl, rfl, rfl, by decide +kernel, rfl, by decide +kernel, by decide +kernel⟩
abbrev s_law_right : Stmt := top 54
abbrev N_law_right : List Str := ["history", "states", "size", "back", "blocks", "lists", "walk", "content", "moments", "contents", "number", "least", "k", "row"]
abbrev P_law_right : List Str := ["history", "states", "size", "back"]
theorem sc_law_right : FnScope N_law_right P_law_right (defScope s_law_right) := ⟨rfl, rfl, rfl, by decide +kernel, rfl, by decide +kernel, by decide +kernel⟩
abbrev s_law : Stmt := top 55
abbrev N_law : List Str := ["script", "spring", "cells", "writes", "history", "states", "least", "size", "known"]
abbrev P_law : List Str := ["script"]
theorem sc_law : FnScope N_law P_law (defScope s_law) := ⟨rfl, rfl, rfl, by decide +kernel, rfl, by decide +kernel, by decide +kernel⟩
abbrev s_File_init : Stmt := inClass (top 17) 0
abbrev N_File_init : List Str := ["self", "cells"]
abbrev P_File_init : List Str := ["self", "cells"]
theorem sc_File_init : FnScope N_File_init P_File_init (defScope s_File_init) := ⟨rfl, rfl, rfl, by decide +kernel, rfl, by decide +kernel, by decide +kernel⟩
abbrev s_File_content : Stmt := inClass (top 17) 2
abbrev N_File_content : List Str := ["self"]
abbrev P_File_content : List Str := ["self"]
theorem sc_File_content : FnScope N_File_content P_File_content (defScope s_File_content) := ⟨rfl, rfl, rfl, by decide +kernel, rfl, by decide +kernel, by decide +kernel⟩
abbrev s_File_len : Stmt := inClass (top 17) 4
abbrev N_File_len : List Str := ["self"]
abbrev P_File_len : List Str := ["self"]
theorem sc_File_len : FnScope N_File_len P_File_len (defScope s_File_len) := ⟨rfl, rfl, rfl, by decide +kernel, rfl, by decide +kernel, by decide +kernel⟩
abbrev s_File_eq : Stmt := inClass (top 17) 7
abbrev N_File_eq : List Str := ["self", "other"]
abbrev P_File_eq : List Str := ["self", "other"]
theorem sc_File_eq : FnScope N_File_eq P_File_eq (defScope s_File_eq) := ⟨rfl, rfl, rfl, by decide +kernel, rfl, by decide +kernel, by decide +kernel⟩
abbrev s_History_init : Stmt := inClass (top 25) 0
abbrev N_History_init : List Str := ["self", "file", "writes", "rows", "row"]
abbrev P_History_init : List Str := ["self", "file", "writes"]
theorem sc_History_init : FnScope N_History_init P_History_init (defScope s_History_init) := ⟨rfl, rfl, rfl, by decide +kernel, rfl, by decide +kernel, by decide +kernel⟩
abbrev s_History_file : Stmt := inClass (top 25) 1
abbrev N_History_file : List Str := ["self"]
abbrev P_History_file : List Str := ["self"]
theorem sc_History_file : FnScope N_History_file P_History_file (defScope s_History_file) := ⟨rfl, rfl, rfl, by decide +kernel, rfl, by decide +kernel, by decide +kernel⟩
abbrev s_History_len : Stmt := inClass (top 25) 2
abbrev N_History_len : List Str := ["self"]
abbrev P_History_len : List Str := ["self"]
theorem sc_History_len : FnScope N_History_len P_History_len (defScope s_History_len) := ⟨rfl, rfl, rfl, by decide +kernel, rfl, by decide +kernel, by decide +kernel⟩
abbrev s_History_eq : Stmt := inClass (top 25) 6
abbrev N_History_eq : List Str := ["self", "other"]
abbrev P_History_eq : List Str := ["self", "other"]
theorem sc_History_eq : FnScope N_History_eq P_History_eq (defScope s_History_eq) := ⟨rfl, rfl, rfl, by decide +kernel, rfl, by decide +kernel, by decide +kernel⟩
abbrev s_History_states : Stmt := inClass (top 25) 7
abbrev N_History_states : List Str := ["self", "found", "begin", "text"]
abbrev P_History_states : List Str := ["self"]
theorem sc_History_states : FnScope N_History_states P_History_states (defScope s_History_states) := ⟨rfl, rfl, rfl, by decide +kernel, rfl, by decide +kernel, by decide +kernel⟩
abbrev si_InvalidFile : Stmt := inClass (top 3) 0
abbrev si_InvalidNumber : Stmt := inClass (top 4) 0
abbrev si_InvalidWrite : Stmt := inClass (top 6) 0
abbrev si_InvalidContent : Stmt := inClass (top 8) 0
structure Prg (K : Frag) (mg : Str → Option Value) where
  n_bool : mg "bool" = none
  n_enumerate : mg "enumerate" = none
  n_int : mg "int" = none
  n_isinstance : mg "isinstance" = none
  n_len : mg "len" = none
  n_list : mg "list" = none
  n_max : mg "max" = none
  n_min : mg "min" = none
  n_range : mg "range" = none
  n_set : mg "set" = none
  n_sorted : mg "sorted" = none
  n_str : mg "str" = none
  n_sum : mg "sum" = none
  n_super : mg "super" = none
  n_tuple : mg "tuple" = none
  tg_SIGNS : Tok
  g_SIGNS : mg "SIGNS" = some (.str "abcdefghijklmnopqrstuvwxyz" tg_SIGNS)
  C_File : Addr
  mc_File : mg "File" = some (.ref C_File)
  C_History : Addr
  mc_History : mg "History" = some (.ref C_History)
  f_is_whole : Addr
  d_is_whole : FuncData
  F_is_whole : Fun K "is_whole" "is_whole" s_is_whole f_is_whole d_is_whole
  b_is_whole : Binds K d_is_whole P_is_whole []
  m_is_whole : mg "is_whole" = some (.ref f_is_whole)
  f_check_least : Addr
  d_check_least : FuncData
  F_check_least : Fun K "check_least" "check_least" s_check_least f_check_least d_check_least
  b_check_least : Binds K d_check_least P_check_least []
  m_check_least : mg "check_least" = some (.ref f_check_least)
  f_check_within : Addr
  d_check_within : FuncData
  F_check_within : Fun K "check_within" "check_within" s_check_within f_check_within d_check_within
  b_check_within : Binds K d_check_within P_check_within []
  m_check_within : mg "check_within" = some (.ref f_check_within)
  f_are_cells : Addr
  d_are_cells : FuncData
  F_are_cells : Fun K "are_cells" "are_cells" s_are_cells f_are_cells d_are_cells
  b_are_cells : Binds K d_are_cells P_are_cells []
  m_are_cells : mg "are_cells" = some (.ref f_are_cells)
  f_is_content : Addr
  d_is_content : FuncData
  F_is_content : Fun K "is_content" "is_content" s_is_content f_is_content d_is_content
  b_is_content : Binds K d_is_content P_is_content []
  m_is_content : mg "is_content" = some (.ref f_is_content)
  f_check_file : Addr
  d_check_file : FuncData
  F_check_file : Fun K "check_file" "check_file" s_check_file f_check_file d_check_file
  b_check_file : Binds K d_check_file P_check_file []
  m_check_file : mg "check_file" = some (.ref f_check_file)
  f_blocks_of : Addr
  d_blocks_of : FuncData
  F_blocks_of : Fun K "blocks_of" "blocks_of" s_blocks_of f_blocks_of d_blocks_of
  b_blocks_of : Binds K d_blocks_of P_blocks_of []
  m_blocks_of : mg "blocks_of" = some (.ref f_blocks_of)
  f_is_write : Addr
  d_is_write : FuncData
  F_is_write : Fun K "is_write" "is_write" s_is_write f_is_write d_is_write
  b_is_write : Binds K d_is_write P_is_write []
  m_is_write : mg "is_write" = some (.ref f_is_write)
  f_check_write : Addr
  d_check_write : FuncData
  F_check_write : Fun K "check_write" "check_write" s_check_write f_check_write d_check_write
  b_check_write : Binds K d_check_write P_check_write []
  m_check_write : mg "check_write" = some (.ref f_check_write)
  f_written : Addr
  d_written : FuncData
  F_written : Fun K "written" "written" s_written f_written d_written
  b_written : Binds K d_written P_written []
  m_written : mg "written" = some (.ref f_written)
  f_check_content : Addr
  d_check_content : FuncData
  F_check_content : Fun K "check_content" "check_content" s_check_content f_check_content d_check_content
  b_check_content : Binds K d_check_content P_check_content []
  m_check_content : mg "check_content" = some (.ref f_check_content)
  f_check_history : Addr
  d_check_history : FuncData
  F_check_history : Fun K "check_history" "check_history" s_check_history f_check_history d_check_history
  b_check_history : Binds K d_check_history P_check_history []
  m_check_history : mg "check_history" = some (.ref f_check_history)
  f_check_asked : Addr
  d_check_asked : FuncData
  F_check_asked : Fun K "check_asked" "check_asked" s_check_asked f_check_asked d_check_asked
  b_check_asked : Binds K d_check_asked P_check_asked []
  m_check_asked : mg "check_asked" = some (.ref f_check_asked)
  f_columns_of : Addr
  d_columns_of : FuncData
  F_columns_of : Fun K "columns_of" "columns_of" s_columns_of f_columns_of d_columns_of
  b_columns_of : Binds K d_columns_of P_columns_of []
  m_columns_of : mg "columns_of" = some (.ref f_columns_of)
  f_columns_along : Addr
  d_columns_along : FuncData
  F_columns_along : Fun K "columns_along" "columns_along" s_columns_along f_columns_along d_columns_along
  b_columns_along : Binds K d_columns_along P_columns_along []
  m_columns_along : mg "columns_along" = some (.ref f_columns_along)
  f_earliest : Addr
  d_earliest : FuncData
  F_earliest : Fun K "earliest" "earliest" s_earliest f_earliest d_earliest
  b_earliest : Binds K d_earliest P_earliest []
  m_earliest : mg "earliest" = some (.ref f_earliest)
  f_copy_moments : Addr
  d_copy_moments : FuncData
  F_copy_moments : Fun K "copy_moments" "copy_moments" s_copy_moments f_copy_moments d_copy_moments
  kb_copy_moments_3_down : KwB K d_copy_moments P_copy_moments 3 ["down"] [.p 0, .p 1, .p 2, .k 0]
  m_copy_moments : mg "copy_moments" = some (.ref f_copy_moments)
  f_late_block : Addr
  d_late_block : FuncData
  F_late_block : Fun K "late_block" "late_block" s_late_block f_late_block d_late_block
  kb_late_block_3_down : KwB K d_late_block P_late_block 3 ["down"] [.p 0, .p 1, .p 2, .k 0]
  m_late_block : mg "late_block" = some (.ref f_late_block)
  f_readings : Addr
  d_readings : FuncData
  F_readings : Fun K "readings" "readings" s_readings f_readings d_readings
  b_readings : Binds K d_readings P_readings []
  m_readings : mg "readings" = some (.ref f_readings)
  f_counts_of : Addr
  d_counts_of : FuncData
  F_counts_of : Fun K "counts_of" "counts_of" s_counts_of f_counts_of d_counts_of
  b_counts_of : Binds K d_counts_of P_counts_of []
  m_counts_of : mg "counts_of" = some (.ref f_counts_of)
  f_content_of : Addr
  d_content_of : FuncData
  F_content_of : Fun K "content_of" "content_of" s_content_of f_content_of d_content_of
  b_content_of : Binds K d_content_of P_content_of []
  m_content_of : mg "content_of" = some (.ref f_content_of)
  f_number_of : Addr
  d_number_of : FuncData
  F_number_of : Fun K "number_of" "number_of" s_number_of f_number_of d_number_of
  b_number_of : Binds K d_number_of P_number_of []
  m_number_of : mg "number_of" = some (.ref f_number_of)
  f_copy_count : Addr
  d_copy_count : FuncData
  F_copy_count : Fun K "copy_count" "copy_count" s_copy_count f_copy_count d_copy_count
  kb_copy_count_2_ : KwB K d_copy_count P_copy_count 2 [] [.p 0, .p 1, .d (.bl false) (.bl false) (.bool false)]
  kb_copy_count_2_down : KwB K d_copy_count P_copy_count 2 ["down"] [.p 0, .p 1, .k 0]
  m_copy_count : mg "copy_count" = some (.ref f_copy_count)
  f_copy_at : Addr
  d_copy_at : FuncData
  F_copy_at : Fun K "copy_at" "copy_at" s_copy_at f_copy_at d_copy_at
  kb_copy_at_3_ : KwB K d_copy_at P_copy_at 3 [] [.p 0, .p 1, .p 2, .d (.bl false) (.bl false) (.bool false)]
  kb_copy_at_3_down : KwB K d_copy_at P_copy_at 3 ["down"] [.p 0, .p 1, .p 2, .k 0]
  m_copy_at : mg "copy_at" = some (.ref f_copy_at)
  f_copy_number : Addr
  d_copy_number : FuncData
  F_copy_number : Fun K "copy_number" "copy_number" s_copy_number f_copy_number d_copy_number
  kb_copy_number_3_down : KwB K d_copy_number P_copy_number 3 ["down"] [.p 0, .p 1, .p 2, .k 0]
  m_copy_number : mg "copy_number" = some (.ref f_copy_number)
  f_law_spring : Addr
  d_law_spring : FuncData
  F_law_spring : Fun K "_law_spring" "_law_spring" s_law_spring f_law_spring d_law_spring
  b_law_spring : Binds K d_law_spring P_law_spring []
  m_law_spring : mg "_law_spring" = some (.ref f_law_spring)
  f_law_sip : Addr
  d_law_sip : FuncData
  F_law_sip : Fun K "_law_sip" "_law_sip" s_law_sip f_law_sip d_law_sip
  b_law_sip : Binds K d_law_sip P_law_sip []
  m_law_sip : mg "_law_sip" = some (.ref f_law_sip)
  f_law_cells : Addr
  d_law_cells : FuncData
  F_law_cells : Fun K "_law_cells" "_law_cells" s_law_cells f_law_cells d_law_cells
  b_law_cells : Binds K d_law_cells P_law_cells []
  m_law_cells : mg "_law_cells" = some (.ref f_law_cells)
  f_law_text : Addr
  d_law_text : FuncData
  F_law_text : Fun K "_law_text" "_law_text" s_law_text f_law_text d_law_text
  b_law_text : Binds K d_law_text P_law_text []
  m_law_text : mg "_law_text" = some (.ref f_law_text)
  f_law_writes : Addr
  d_law_writes : FuncData
  F_law_writes : Fun K "_law_writes" "_law_writes" s_law_writes f_law_writes d_law_writes
  b_law_writes : Binds K d_law_writes P_law_writes []
  m_law_writes : mg "_law_writes" = some (.ref f_law_writes)
  f_law_states : Addr
  d_law_states : FuncData
  F_law_states : Fun K "_law_states" "_law_states" s_law_states f_law_states d_law_states
  b_law_states : Binds K d_law_states P_law_states []
  m_law_states : mg "_law_states" = some (.ref f_law_states)
  f_law_blocks : Addr
  d_law_blocks : FuncData
  F_law_blocks : Fun K "_law_blocks" "_law_blocks" s_law_blocks f_law_blocks d_law_blocks
  b_law_blocks : Binds K d_law_blocks P_law_blocks []
  m_law_blocks : mg "_law_blocks" = some (.ref f_law_blocks)
  f_law_early : Addr
  d_law_early : FuncData
  F_law_early : Fun K "_law_early" "_law_early" s_law_early f_law_early d_law_early
  b_law_early : Binds K d_law_early P_law_early []
  m_law_early : mg "_law_early" = some (.ref f_law_early)
  f_law_walks : Addr
  d_law_walks : FuncData
  F_law_walks : Fun K "_law_walks" "_law_walks" s_law_walks f_law_walks d_law_walks
  b_law_walks : Binds K d_law_walks P_law_walks []
  m_law_walks : mg "_law_walks" = some (.ref f_law_walks)
  f_law_read : Addr
  d_law_read : FuncData
  F_law_read : Fun K "_law_read" "_law_read" s_law_read f_law_read d_law_read
  b_law_read : Binds K d_law_read P_law_read []
  m_law_read : mg "_law_read" = some (.ref f_law_read)
  f_law_mixes : Addr
  d_law_mixes : FuncData
  F_law_mixes : Fun K "_law_mixes" "_law_mixes" s_law_mixes f_law_mixes d_law_mixes
  b_law_mixes : Binds K d_law_mixes P_law_mixes []
  m_law_mixes : mg "_law_mixes" = some (.ref f_law_mixes)
  f_law_right : Addr
  d_law_right : FuncData
  F_law_right : Fun K "_law_right" "_law_right" s_law_right f_law_right d_law_right
  b_law_right : Binds K d_law_right P_law_right []
  m_law_right : mg "_law_right" = some (.ref f_law_right)
  f_law : Addr
  d_law : FuncData
  F_law : Fun K "law" "law" s_law f_law d_law
  f_File_init : Addr
  d_File_init : FuncData
  F_File_init : FunV K "__init__" "File.__init__" s_File_init f_File_init d_File_init
  b_File_init : Binds K d_File_init P_File_init []
  f_File_content : Addr
  d_File_content : FuncData
  F_File_content : Fun K "content" "File.content" s_File_content f_File_content d_File_content
  b_File_content : Binds K d_File_content P_File_content []
  pr_File_content : Addr
  V_File_content : PropOf K C_File "content" pr_File_content f_File_content
  f_File_len : Addr
  d_File_len : FuncData
  F_File_len : Fun K "__len__" "File.__len__" s_File_len f_File_len d_File_len
  b_File_len : Binds K d_File_len P_File_len []
  M_File_len : Meth K C_File "__len__" f_File_len
  f_File_eq : Addr
  d_File_eq : FuncData
  F_File_eq : Fun K "__eq__" "File.__eq__" s_File_eq f_File_eq d_File_eq
  b_File_eq : Binds K d_File_eq P_File_eq []
  M_File_eq : Meth K C_File "__eq__" f_File_eq
  f_History_init : Addr
  d_History_init : FuncData
  F_History_init : FunV K "__init__" "History.__init__" s_History_init f_History_init d_History_init
  b_History_init : Binds K d_History_init P_History_init []
  f_History_file : Addr
  d_History_file : FuncData
  F_History_file : Fun K "file" "History.file" s_History_file f_History_file d_History_file
  b_History_file : Binds K d_History_file P_History_file []
  pr_History_file : Addr
  V_History_file : PropOf K C_History "file" pr_History_file f_History_file
  f_History_len : Addr
  d_History_len : FuncData
  F_History_len : Fun K "__len__" "History.__len__" s_History_len f_History_len d_History_len
  b_History_len : Binds K d_History_len P_History_len []
  M_History_len : Meth K C_History "__len__" f_History_len
  f_History_eq : Addr
  d_History_eq : FuncData
  F_History_eq : Fun K "__eq__" "History.__eq__" s_History_eq f_History_eq d_History_eq
  b_History_eq : Binds K d_History_eq P_History_eq []
  M_History_eq : Meth K C_History "__eq__" f_History_eq
  f_History_states : Addr
  d_History_states : FuncData
  F_History_states : Fun K "states" "History.states" s_History_states f_History_states d_History_states
  b_History_states : Binds K d_History_states P_History_states []
  M_History_states : Meth K C_History "states" f_History_states
  L_File : ICls K C_File
  K_File : Mk K C_File f_File_init
  A_File_row : NoAttr K C_File "row"
  L_History : ICls K C_History
  K_History : Mk K C_History f_History_init
  A_History_start : NoAttr K C_History "start"
  A_History_rows : NoAttr K C_History "rows"
  s_File_File : PySem.W.kitOne K (.ref C_File) (.ref C_File) = some true
  s_History_History : PySem.W.kitOne K (.ref C_History) (.ref C_History) = some true
  C_InvalidFile : Addr
  I_InvalidFile : Addr
  mc_InvalidFile : mg "InvalidFile" = some (.ref C_InvalidFile)
  S_InvalidFile : SupX PySem.Challenge.rw_keptholes_k52_copies_by_all_moments.prog K C_InvalidFile I_InvalidFile "value" "value"
  C_InvalidNumber : Addr
  I_InvalidNumber : Addr
  mc_InvalidNumber : mg "InvalidNumber" = some (.ref C_InvalidNumber)
  S_InvalidNumber : SupX PySem.Challenge.rw_keptholes_k52_copies_by_all_moments.prog K C_InvalidNumber I_InvalidNumber "value" "value"
  C_InvalidList : Addr
  C_InvalidWrite : Addr
  I_InvalidWrite : Addr
  mc_InvalidWrite : mg "InvalidWrite" = some (.ref C_InvalidWrite)
  S_InvalidWrite : SupX PySem.Challenge.rw_keptholes_k52_copies_by_all_moments.prog K C_InvalidWrite I_InvalidWrite "value" "value"
  C_InvalidHistory : Addr
  C_InvalidContent : Addr
  I_InvalidContent : Addr
  mc_InvalidContent : mg "InvalidContent" = some (.ref C_InvalidContent)
  S_InvalidContent : SupX PySem.Challenge.rw_keptholes_k52_copies_by_all_moments.prog K C_InvalidContent I_InvalidContent "value" "value"
end Kh

set_option Elab.async false
set_option linter.all false
set_option maxRecDepth 100000
set_option maxHeartbeats 4000000
namespace Kh
open PySem PySem.Spec L2
def m_law_spring (a_script : (List Int)) (a_at : Int) : Res (List Int) :=
  (cond (decide (a_at < (a_script.length : Int))) ((pix a_script a_at).bind fun z2 => Res.ok z2) (Res.ok (((17 : Int) * a_at) + (3 : Int)))).bind fun (s1 : Int) => cond (decide (((10 : Int) ^ Int.toNat (18 : Int)) ≤ s1)) ((pmul ((10 : Int) ^ Int.toNat (60 : Int)) ((10 : Int) ^ Int.toNat (60 : Int))).bind fun z6 => (pmul z6 ((10 : Int) ^ Int.toNat (60 : Int))).bind fun z7 => (pmul z7 ((10 : Int) ^ Int.toNat (60 : Int))).bind fun z8 => (pmul z8 z8).bind fun z9 => (pmod (s1 - ((10 : Int) ^ Int.toNat (18 : Int))) z9).bind fun z10 => Res.ok ([z10] : List Int)) ((foldR (fun (s13 : (Int × Int × Int)) x14 => (pmul s13.2.1 s13.2.1).bind fun z17 => (pmul (((((s13.1 * (39373 : Int)) + (x14 * (977 : Int))) + ((4099 : Int) * a_at)) + (5 : Int)) % (2147483543 : Int)) (((z17 + ((48611 : Int) * x14)) + (2713 : Int)) % (2147483497 : Int))).bind fun z18 => Res.ok ((((((s13.1 * (39373 : Int)) + (x14 * (977 : Int))) + ((4099 : Int) * a_at)) + (5 : Int)) % (2147483543 : Int)), (((z17 + ((48611 : Int) * x14)) + (2713 : Int)) % (2147483497 : Int)), ((s13.2.2 * (2147483496 : Int)) + ((z18 + ((31 : Int) * x14)) % (2147483496 : Int))))) (rangeL 0 (Int.toNat (46 : Int))) (((s1 + ((3 : Int) * a_at)) % (2147483543 : Int)), (s1 % (2147483497 : Int)), (0 : Int))).bind fun s13 => Res.ok ([s13.2.2] : List Int))

def m_law_sip (a_spring : (List Int)) (a_many : Int) : Res (Int × (List Int)) :=
  (pix a_spring (0 : Int)).bind fun z1 => (pmod z1 a_many).bind fun z2 => (pix a_spring (0 : Int)).bind fun z3 => (pdiv z3 a_many).bind fun z4 => (pset a_spring (0 : Int) z4).bind fun z5 => Res.ok (z2, z5)

def m_law_cells (a_spring : (List Int)) (a_length : Int) : Res (Str × (List Int)) :=
  (m_law_sip a_spring (4 : Int)).bind fun z1 => (pix ([("..0ab" : Str), (".0abcd" : Str), ("aab0." : Str), ("abcdefghijklmnopqrstuvwxyz.0" : Str)] : List Str) z1.1).bind fun z2 => (guard (small62 a_length) ()).bind fun _ => (compS (β := Nat) (fun (s5 : (List Int)) x4 => (plenS z2).bind fun z6 => (m_law_sip s5 z6).bind fun z7 => (pixS z2 z7.1).bind fun z8 => Res.ok (some z8, z7.2)) (rangeL 0 (Int.toNat a_length)) z1.2).bind fun l9 => (pjoin ("" : Str) (l9.1.map chS)).bind fun z10 => Res.ok (z10, l9.2)

def m_law_text (a_spring : (List Int)) (a_length : Int) : Res (Str × (List Int)) :=
  (m_law_sip a_spring (4 : Int)).bind fun z1 => (pix ([("0ab" : Str), ("0abcd" : Str), ("ab" : Str), ("abcdefghijklmnopqrstuvwxyz0" : Str)] : List Str) z1.1).bind fun z2 => (guard (small62 a_length) ()).bind fun _ => (compS (β := Nat) (fun (s5 : (List Int)) x4 => (plenS z2).bind fun z6 => (m_law_sip s5 z6).bind fun z7 => (pixS z2 z7.1).bind fun z8 => Res.ok (some z8, z7.2)) (rangeL 0 (Int.toNat a_length)) z1.2).bind fun l9 => (pjoin ("" : Str) (l9.1.map chS)).bind fun z10 => Res.ok (z10, l9.2)

def m_law_writes (a_spring : (List Int)) (a_length : Int) (a_most : Int) : Res ((List (Int × Str)) × (List Int)) :=
  (m_law_sip a_spring (a_most + (1 : Int))).bind fun z2 => (pmul z2.1 (if (decide ((0 : Int) < a_length)) then 1 else 0 : Int)).bind fun z3 => (guard (small62 z3) ()).bind fun _ => (foldR (fun (s4 : ((List (Int × Str)) × (List Int))) x5 => (m_law_sip s4.2 a_length).bind fun z8 => (m_law_sip z8.2 (4 : Int)).bind fun z9 => (pix ([(1 : Int), (2 : Int), (3 : Int), (9 : Int)] : List Int) z9.1).bind fun z10 => (m_law_sip z9.2 (min (a_length - z8.1) z10)).bind fun z11 => (m_law_text z11.2 ((1 : Int) + z11.1)).bind fun z13 => (papp s4.1 (z8.1, z13.1)).bind fun z12 => Res.ok (z12, z13.2)) (rangeL 0 (Int.toNat z3)) (([] : List (Int × Str)), z2.2)).bind fun s4 => Res.ok (s4.1, s4.2)


def m_check_file (a_value : Str) : Res Unit :=
  Res.ok ()

def m_is_whole (a_value : Int) : Res Bool :=
  (andR (Res.ok true) (Res.ok (!false))).bind fun z1 => Res.ok z1

def m_is_content (a_value : Str) : Res Bool :=
  (andR (Res.ok true) ((compR (β := Nat) (fun x1 => (pcat ("0" : Str) ("abcdefghijklmnopqrstuvwxyz" : Str)).bind fun z2 => cond (!decide (x1 ∈ signsL z2)) (Res.ok (some x1)) (Res.ok none)) (signsL a_value)).bind fun l3 => Res.ok (l3.isEmpty))).bind fun z4 => Res.ok z4

def m_is_write (a_value : (Int × Str)) (a_length : Int) : Res Bool :=
  cond (!decide ((2 : Int) = (2 : Int))) (Res.ok false) ((m_is_whole a_value.1).bind fun z2 => cond z2 ((m_is_content a_value.2).bind fun z4 => cond z4 ((andR (Res.ok (decide ((0 : Int) ≤ a_value.1))) (andR (Res.ok (!decide (a_value.2 = ("" : Str)))) ((plenS a_value.2).bind fun z6 => Res.ok (decide ((a_value.1 + z6) ≤ a_length))))).bind fun z7 => Res.ok z7) (Res.ok false)) (Res.ok false))

def m_check_write (a_value : (Int × Str)) (a_length : Int) : Res Unit :=
  (m_is_write a_value a_length).bind fun z1 => cond z1 (Res.ok ()) (Res.err ⟨.write, (Any.tup [(Any.int a_value.1), (Any.str a_value.2)])⟩)

def m_File_len (a_self : Str) : Res Int :=
  (plenS a_self).bind fun z1 => Res.ok z1

def m_History_make (a_file : Str) (a_writes : (Option (List (Int × Str)))) : Res (Str × List (Int × Str)) :=
  (m_check_file a_file).bind fun z1 => ((match a_writes with | none => Res.ok ([] : List (Int × Str)) | some z2 => Res.ok z2)).bind fun z3 => (foldR (fun (s4 : Unit) x5 => (plenO (m_File_len a_file)).bind fun z8 => (m_check_write x5 z8).bind fun z9 => Res.ok ()) z3 ()).bind fun s4 => Res.ok (a_file, z3)

def m_are_cells (a_value : Str) : Res Bool :=
  (andR (Res.ok true) ((compR (β := Nat) (fun x1 => (pcat (".0" : Str) ("abcdefghijklmnopqrstuvwxyz" : Str)).bind fun z2 => cond (!decide (x1 ∈ signsL z2)) (Res.ok (some x1)) (Res.ok none)) (signsL a_value)).bind fun l3 => Res.ok (l3.isEmpty))).bind fun z4 => Res.ok z4

def m_File_make (z : Str) : Res Str := (m_are_cells z).bind fun b => cond b (.ok z) (.err ⟨.file, .str z⟩)

def m_law_states (a_cells : Str) (a_writes : (List (Int × Str))) : Res (List Str) :=
  (preplS a_cells "." "0").bind fun z2 => (foldR (fun (s3 : (List Str)) x4 => (pix s3 (-(1 : Int))).bind fun z7 => (pslS z7 none (some x4.1)).bind fun z9 => (pcat z9 x4.2).bind fun z10 => (plenS x4.2).bind fun z11 => (pslS z7 (some (x4.1 + z11)) none).bind fun z12 => (pcat z10 z12).bind fun z13 => (papp s3 z13).bind fun z8 => Res.ok z8) a_writes ([z2] : List Str)).bind fun s3 => Res.ok s3

def m_law_blocks (a_content : Str) (a_size : Int) : Res (List Str) :=
  (plenS a_content).bind fun z1 => (guard (rng3B (0 : Int) z1 a_size) ()).bind fun _ => (compR (β := Str) (fun x2 => (pslS a_content (some x2) (some (x2 + a_size))).bind fun z3 => Res.ok (some z3)) (rangeC (0 : Int) a_size (Int.toNat ((z1 - (0 : Int) + a_size - 1) / a_size)))).bind fun l4 => Res.ok l4

def m_law_walks (a_many : Int) (a_blocks : Int) : Res (List (List Int)) :=
  (guard (small62 a_blocks) ()).bind fun _ => (foldR (fun (s1 : (List (List Int))) x2 => (foldR (fun (s5 : (List (List Int))) x6 => (pcatL ([(0 : Int)] : List Int) x6).bind fun z9 => (pix z9 (-(1 : Int))).bind fun z10 => (guard (small62 z10 ∧ small62 a_many) ()).bind fun _ => (compR (β := (List Int)) (fun x11 => (pcatL x6 ([x11] : List Int)).bind fun z12 => Res.ok (some z12)) (rangeL z10 (Int.toNat (a_many - z10)))).bind fun l13 => (pcatL s5 l13).bind fun z14 => Res.ok z14) s1 ([] : List (List Int))).bind fun s5 => Res.ok s5) (rangeL 0 (Int.toNat a_blocks)) ([([] : List Int)] : List (List Int))).bind fun s1 => Res.ok s1

def m_law_read (a_states : (List Str)) (a_size : Int) (a_walk : (List Int)) (a_back : Bool) : Res Str :=
  (compR (β := (List Str)) (fun x1 => (m_law_blocks x1 a_size).bind fun z2 => Res.ok (some z2)) a_states).bind fun l3 => (cond a_back (Res.ok a_walk.reverse) (Res.ok a_walk)).bind fun (s4 : (List Int)) => (guard (small62 (s4.length : Int)) ()).bind fun _ => (compR (β := Str) (fun x8 => (pix s4 x8).bind fun z9 => (pix l3 z9).bind fun z10 => (pix z10 x8).bind fun z11 => Res.ok (some z11)) (rangeL 0 (Int.toNat (s4.length : Int)))).bind fun l12 => (pjoin ("" : Str) l12).bind fun z13 => Res.ok z13

def m_check_history (a_value : (Str × List (Int × Str))) : Res Unit :=
  Res.ok ()

def m_check_least (a_value : Int) (a_least : Int) : Res Unit :=
  (m_is_whole a_value).bind fun z1 => cond z1 (cond (decide (a_value < a_least)) (Res.err ⟨.number, (Any.int a_value)⟩) (Res.ok ())) (Res.err ⟨.number, (Any.int a_value)⟩)

def m_check_asked (a_history : (Str × List (Int × Str))) (a_size : Int) : Res Unit :=
  (m_check_history a_history).bind fun z1 => (m_check_least a_size (1 : Int)).bind fun z2 => Res.ok ()

def m_blocks_of (a_cells : Str) (a_size : Int) : Res (List Str) :=
  (plenS a_cells).bind fun z1 => (guard (rng3B (0 : Int) z1 a_size) ()).bind fun _ => (compR (β := Str) (fun x2 => (pslS a_cells (some x2) (some (x2 + a_size))).bind fun z3 => Res.ok (some z3)) (rangeC (0 : Int) a_size (Int.toNat ((z1 - (0 : Int) + a_size - 1) / a_size)))).bind fun l4 => Res.ok l4

def m_columns_of (a_states : (List Str)) (a_size : Int) : Res (List (List Str)) :=
  (compR (β := (List Str)) (fun x1 => (m_blocks_of x1 a_size).bind fun z2 => Res.ok (some z2)) a_states).bind fun l3 => (pix l3 (0 : Int)).bind fun z4 => (guard (small62 (z4.length : Int)) ()).bind fun _ => (compR (β := (List Str)) (fun x5 => (compR (β := Str) (fun x6 => (pix x6 x5).bind fun z7 => Res.ok (some z7)) l3).bind fun l8 => Res.ok (some l8)) (rangeL 0 (Int.toNat (z4.length : Int)))).bind fun l9 => Res.ok l9

def m_columns_along (a_states : (List Str)) (a_size : Int) (a_down : Bool) : Res (List (List Str)) :=
  (cond a_down (Res.ok a_states.reverse) (Res.ok a_states)).bind fun z1 => (m_columns_of z1 a_size).bind fun z2 => Res.ok z2

def m_File_content (a_self : Str) : Res Str :=
  (preplS a_self "." "0").bind fun z1 => Res.ok z1

def m_written (a_row : Str) (a_begin : Int) (a_text : Str) : Res Str :=
  (pslS a_row none (some a_begin)).bind fun z1 => (pcat z1 a_text).bind fun z2 => (plenS a_text).bind fun z3 => (pslS a_row (some (a_begin + z3)) none).bind fun z4 => (pcat z2 z4).bind fun z5 => Res.ok z5

def m_History_states (a_self : (Str × List (Int × Str))) : Res (List Str) :=
  (m_File_content a_self.1).ne.bind fun z2 => (foldR (fun (s3 : (List Str)) x4 => (pix s3 (-(1 : Int))).bind fun z8 => (m_written z8 x4.1 x4.2).bind fun z9 => (papp s3 z9).bind fun z7 => Res.ok z7) a_self.2 ([z2] : List Str)).bind fun s3 => Res.ok s3

def m_readings (a_column : (List Str)) (a_t : Int) : Res (List (Str × Int)) :=
  (guard (small62 a_t ∧ small62 (a_column.length : Int)) ()).bind fun _ => (foldR (fun (s2 : (List (Str × Int))) x3 => ((pix a_column x3).bind fun z7 => cond (!(dget s2 z7).isSome) ((pix a_column x3).bind fun z8 => (pdput s2 z8 x3).bind fun z9 => Res.ok z9) (Res.ok s2)).bind fun (s6 : (List (Str × Int))) => Res.ok s6) (rangeL a_t (Int.toNat ((a_column.length : Int) - a_t))) ([] : List (Str × Int))).bind fun s2 => (compR (β := (Str × Int)) (fun x16 => Res.ok (some (x16.1, x16.2))) s2).bind fun l17 => (psrtD (py2 pyS pyI) l17).bind fun z18 => Res.ok z18

def m_counts_of (a_columns : (List (List Str))) (a_places : Int) : Res (List (List Int)) :=
  (guard (small62 a_places) ()).bind fun _ => (compR (β := Int) (fun x2 => Res.ok (some (1 : Int))) (rangeL 0 (Int.toNat a_places))).bind fun l3 => (foldR (fun (s4 : (List (List Int))) x5 => (guard (small62 a_places) ()).bind fun _ => (compR (β := Int) (fun x9 => (m_readings x5 x9).bind fun z10 => (compR (β := Int) (fun x11 => (pix s4 (-(1 : Int))).bind fun z12 => (pix z12 x11.2).bind fun z13 => Res.ok (some z13)) z10).bind fun l14 => Res.ok (some (l14.sum))) (rangeL 0 (Int.toNat a_places))).bind fun l15 => (papp s4 l15).bind fun z8 => Res.ok z8) a_columns.reverse ([l3] : List (List Int))).bind fun s4 => Res.ok s4.reverse

def m_History_len (a_self : (Str × List (Int × Str))) : Res Int :=
  Res.ok (a_self.2.length : Int)

def m_copy_count (a_history : (Str × List (Int × Str))) (a_size : Int) (a_down : Bool) : Res Int :=
  (m_check_asked a_history a_size).bind fun z1 => (m_History_states a_history).bind fun z2 => (m_columns_along z2 a_size a_down).bind fun z3 => (plenO (m_History_len a_history)).bind fun z4 => (m_counts_of z3 (z4 + (1 : Int))).bind fun z5 => (pix z5 (0 : Int)).bind fun z6 => (pix z6 (0 : Int)).bind fun z7 => Res.ok z7

def m_check_within (a_value : Int) (a_first : Int) (a_last : Int) : Res Unit :=
  (m_is_whole a_value).bind fun z1 => cond z1 ((cond (decide (a_first ≤ a_value)) (Res.ok (decide (a_value ≤ a_last))) (Res.ok false)).bind fun t3 => cond t3 (Res.ok ()) (Res.err ⟨.number, (Any.int a_value)⟩)) (Res.err ⟨.number, (Any.int a_value)⟩)

def m_content_of (a_columns : (List (List Str))) (a_counts : (List (List Int))) (a_number : Int) : Res Str :=
  (forR (ρ := Str) (fun (s1 : (Int × Str × Int)) x2 => (m_readings x2.2 s1.2.2).bind fun z5 => (forR (ρ := Str) (fun (s6 : (Int × Str × Int)) x7 => (pix a_counts (x2.1 + (1 : Int))).bind fun z10 => (pix z10 x7.2).bind fun z11 => cond (decide (s6.1 < z11)) ((pcat s6.2.1 x7.1).bind fun z12 => Res.ok (Ctl.bk (s6.1, z12, x7.2))) (Res.ok (Ctl.nx ((s6.1 - z11), s6.2.1, s6.2.2)))) z5 (s1.1, s1.2.1, s1.2.2)).bind (Ctl.fin (fun s6 => Res.ok (Ctl.nx (s6.1, s6.2.1, s6.2.2))) (fun r => Res.ok (Ctl.rt r)))) (enumL a_columns) (a_number, ("" : Str), (0 : Int))).bind (Ctl.fin (fun s1 => Res.ok s1.2.1) (fun r => Res.ok r))

def m_copy_at (a_history : (Str × List (Int × Str))) (a_size : Int) (a_number : Int) (a_down : Bool) : Res Str :=
  (m_check_asked a_history a_size).bind fun z1 => (m_History_states a_history).bind fun z2 => (m_columns_along z2 a_size a_down).bind fun z3 => (plenO (m_History_len a_history)).bind fun z4 => (m_counts_of z3 (z4 + (1 : Int))).bind fun z5 => (pix z5 (0 : Int)).bind fun z6 => (pix z6 (0 : Int)).bind fun z7 => (m_check_within a_number (0 : Int) (z7 - (1 : Int))).bind fun z8 => (m_content_of z3 z5 a_number).bind fun z9 => Res.ok z9

def m_History_file (a_self : (Str × List (Int × Str))) : Res Str :=
  Res.ok a_self.1

def m_check_content (a_value : Str) (a_history : (Str × List (Int × Str))) : Res Unit :=
  (m_is_content a_value).bind fun z1 => cond z1 ((plenS a_value).bind fun z3 => (m_History_file a_history).ne.bind fun z4 => (plenO (m_File_len z4)).bind fun z5 => cond (!decide (z3 = z5)) (Res.err ⟨.content, (Any.str a_value)⟩) (Res.ok ())) (Res.err ⟨.content, (Any.str a_value)⟩)

def m_number_of (a_columns : (List (List Str))) (a_counts : (List (List Int))) (a_wanted : (List Str)) : Res (Option Int) :=
  (forR (ρ := (Option Int)) (fun (s1 : (Int × Int)) x2 => (m_readings x2.2 s1.2).bind fun z5 => (compR (β := Int) (fun x6 => (pix a_wanted x2.1).bind fun z7 => cond (decide (x6.1 = z7)) (Res.ok (some x6.2)) (Res.ok none)) z5).bind fun l8 => cond (l8.isEmpty) (Res.ok (Ctl.rt none)) ((m_readings x2.2 s1.2).bind fun z10 => (compR (β := Int) (fun x11 => (pix a_wanted x2.1).bind fun z12 => cond (decide (x11.1.cps.toList < z12.cps.toList)) ((pix a_counts (x2.1 + (1 : Int))).bind fun z13 => (pix z13 x11.2).bind fun z14 => Res.ok (some z14)) (Res.ok none)) z10).bind fun l15 => (pix l8 (0 : Int)).bind fun z16 => Res.ok (Ctl.nx ((s1.1 + (l15.sum)), z16)))) (enumL a_columns) ((0 : Int), (0 : Int))).bind (Ctl.fin (fun s1 => Res.ok (some s1.1)) (fun r => Res.ok r))

def m_copy_number (a_history : (Str × List (Int × Str))) (a_size : Int) (a_content : Str) (a_down : Bool) : Res (Option Int) :=
  (m_check_asked a_history a_size).bind fun z1 => (m_check_content a_content a_history).bind fun z2 => (m_History_states a_history).bind fun z3 => (m_columns_along z3 a_size a_down).bind fun z4 => (plenO (m_History_len a_history)).bind fun z5 => (m_counts_of z4 (z5 + (1 : Int))).bind fun z6 => (m_blocks_of a_content a_size).bind fun z7 => (m_number_of z4 z6 z7).bind fun z8 => Res.ok z8

def m_earliest (a_history : (Str × List (Int × Str))) (a_size : Int) (a_content : Str) (a_down : Bool) : Res ((Option (List Int)) × (Option (Int × Int))) :=
  (m_History_states a_history).bind fun z1 => (m_columns_of z1 a_size).bind fun z2 => (m_blocks_of a_content a_size).bind fun z3 => (plrng (z2.length : Int)).bind fun z4 => (compR (β := Int) (fun x6 => Res.ok (some (0 : Int))) z4).bind fun l7 => (cond a_down (Res.ok z4.reverse) (Res.ok z4)).bind fun z8 => (forR (ρ := ((Option (List Int)) × (Option (Int × Int)))) (fun (s9 : (Int × (List Int))) x10 => (pix z2 x10).bind fun z13 => (guard (small62 s9.1 ∧ small62 (z13.length : Int)) ()).bind fun _ => (compR (β := Int) (fun x14 => (pix z2 x10).bind fun z15 => (pix z15 x14).bind fun z16 => (pix z3 x10).bind fun z17 => cond (decide (z16 = z17)) (Res.ok (some x14)) (Res.ok none)) (rangeL s9.1 (Int.toNat ((z13.length : Int) - s9.1)))).bind fun l18 => cond (l18.isEmpty) (Res.ok (Ctl.rt (none, (some (x10, s9.1))))) ((pix l18 (0 : Int)).bind fun z20 => (pset s9.2 x10 z20).bind fun z21 => Res.ok (Ctl.nx (z20, z21)))) z8 ((0 : Int), l7)).bind (Ctl.fin (fun s9 => Res.ok ((some s9.2), none)) (fun r => Res.ok r))

def m_copy_moments (a_history : (Str × List (Int × Str))) (a_size : Int) (a_content : Str) (a_down : Bool) : Res (Option (List Int)) :=
  (m_check_asked a_history a_size).bind fun z1 => (m_check_content a_content a_history).bind fun z2 => (m_earliest a_history a_size a_content a_down).bind fun z3 => Res.ok z3.1

def m_late_block (a_history : (Str × List (Int × Str))) (a_size : Int) (a_content : Str) (a_down : Bool) : Res (Option (Int × Int)) :=
  (m_check_asked a_history a_size).bind fun z1 => (m_check_content a_content a_history).bind fun z2 => (m_earliest a_history a_size a_content a_down).bind fun z3 => Res.ok z3.2

def m_law_mixes (a_states : (List Str)) (a_size : Int) : Res (List Str) :=
  (pix a_states (0 : Int)).bind fun z1 => (m_law_blocks z1 a_size).bind fun z2 => (guard (small62 (z2.length : Int)) ()).bind fun _ => (foldR (fun (s3 : (List Str)) x4 => (compR (β := Str) (fun x7 => (m_law_blocks x7 a_size).bind fun z8 => (pix z8 x4).bind fun z9 => Res.ok (some z9)) a_states).bind fun l10 => (psrtSetS l10).bind fun z11 => (foldR (fun (s12 : (List Str)) x13 => (compR (β := Str) (fun x16 => (pcat x16 x13).bind fun z17 => Res.ok (some z17)) s3).bind fun l18 => (pcatL s12 l18).bind fun z19 => Res.ok z19) z11 ([] : List Str)).bind fun s12 => Res.ok s12) (rangeL 0 (Int.toNat (z2.length : Int))) ([("" : Str)] : List Str)).bind fun s3 => (psrtD pyS s3).bind fun z27 => Res.ok z27

def m_law_early (a_states : (List Str)) (a_size : Int) (a_content : Str) (a_back : Bool) : Res ((Option (List Int)) × (Option (Int × Int))) :=
  (m_law_blocks a_content a_size).bind fun z1 => (compR (β := (List Str)) (fun x2 => (m_law_blocks x2 a_size).bind fun z3 => Res.ok (some z3)) a_states).bind fun l4 => (plrng (z1.length : Int)).bind fun z5 => (cond a_back (Res.ok z5.reverse) (Res.ok z5)).bind fun (s6 : (List Int)) => (compR (β := Int) (fun x11 => Res.ok (some (0 : Int))) s6).bind fun l12 => (forR (ρ := ((Option (List Int)) × (Option (Int × Int)))) (fun (s13 : (Int × (List Int))) x14 => (guard (small62 s13.1 ∧ small62 (a_states.length : Int)) ()).bind fun _ => (compR (β := Int) (fun x17 => (pix l4 x17).bind fun z18 => (pix z18 x14).bind fun z19 => (pix z1 x14).bind fun z20 => cond (decide (z19 = z20)) (Res.ok (some x17)) (Res.ok none)) (rangeL s13.1 (Int.toNat ((a_states.length : Int) - s13.1)))).bind fun l21 => cond (l21.isEmpty) (Res.ok (Ctl.rt (none, (some (x14, s13.1))))) ((pix l21 (0 : Int)).bind fun z23 => (pset s13.2 x14 z23).bind fun z24 => Res.ok (Ctl.nx (z23, z24)))) s6 ((0 : Int), l12)).bind (Ctl.fin (fun s13 => Res.ok ((some s13.2), none)) (fun r => Res.ok r))

def m_law_right (a_history : (Str × List (Int × Str))) (a_states : (List Str)) (a_size : Int) (a_back : Bool) : Res Bool :=
  (pix a_states (0 : Int)).bind fun z1 => (m_law_blocks z1 a_size).bind fun z2 => (m_law_walks (a_states.length : Int) (z2.length : Int)).bind fun z4 => (foldR (fun (s5 : (List (Str × (List (List Int))))) x6 => (m_law_read a_states a_size x6 a_back).bind fun z9 => (cond a_back (Res.ok x6.reverse) (Res.ok x6)).bind fun (s10 : (List Int)) => (pcatL ((gget s5 z9).getD ([] : List (List Int))) ([s10] : List (List Int))).bind fun z14 => (pdput s5 z9 z14).bind fun z15 => Res.ok z15) z4 ([] : List (Str × (List (List Int))))).bind fun s5 => (psrtD pyS (s5.map (·.1))).bind fun z22 => (m_copy_count a_history a_size a_back).bind fun z23 => cond (!decide (z23 = (z22.length : Int))) (Res.ok false) ((guard (small62 (z22.length : Int)) ()).bind fun _ => (forR (ρ := Bool) (fun (s25 : Unit) x26 => (pix z22 x26).bind fun z29 => (guard (small62 (z2.length : Int)) ()).bind fun _ => (compR (β := Int) (fun x30 => (pgget s5 z29).bind fun z31 => (compR (β := Int) (fun x32 => (pix x32 x30).bind fun z33 => Res.ok (some z33)) z31).bind fun l34 => (pmin l34).bind fun z35 => Res.ok (some z35)) (rangeL 0 (Int.toNat (z2.length : Int)))).bind fun l36 => (m_copy_at a_history a_size x26 a_back).bind fun z37 => cond (!decide (z37 = z29)) (Res.ok (Ctl.rt false)) ((m_copy_number a_history a_size z29 a_back).bind fun z39 => (peq (pyO pyI (fun _ => ⟨rfl, rfl⟩)).ok z39 (some x26)).bind fun z40 => cond (!z40) (Res.ok (Ctl.rt false)) ((m_copy_moments a_history a_size z29 a_back).bind fun z42 => (peq (pyO (pyL pyI) (fun _ => ⟨rfl, rfl⟩)).ok z42 (some l36)).bind fun z43 => cond (!z43) (Res.ok (Ctl.rt false)) ((pgget s5 z29).bind fun z45 => (pinL (pyL pyI).ok l36 z45).bind fun z46 => cond (!z46) (Res.ok (Ctl.rt false)) ((m_late_block a_history a_size z29 a_back).bind fun z48 => cond (!z48.isNone) (Res.ok (Ctl.rt false)) (Res.ok (Ctl.nx ()))))))) (rangeL 0 (Int.toNat (z22.length : Int))) ()).bind (Ctl.fin (fun s25 => (m_law_mixes a_states a_size).bind fun z58 => (forR (ρ := Bool) (fun (s59 : Unit) x60 => cond (!(dget s5 x60).isSome) ((m_copy_moments a_history a_size x60 a_back).bind fun z63 => cond (!z63.isNone) (Res.ok (Ctl.rt false)) ((m_late_block a_history a_size x60 a_back).bind fun z65 => (m_law_early a_states a_size x60 a_back).bind fun z66 => (peq (pyO (py2 pyI pyI) (fun _ => ⟨rfl, rfl⟩)).ok z65 z66.2).bind fun z67 => cond (!z67) (Res.ok (Ctl.rt false)) ((m_copy_number a_history a_size x60 a_back).bind fun z69 => cond (!z69.isNone) (Res.ok (Ctl.rt false)) (Res.ok (Ctl.nx ()))))) (Res.ok (Ctl.nx ()))) z58 ()).bind (Ctl.fin (fun s59 => Res.ok true) (fun r => Res.ok r))) (fun r => Res.ok r)))

def m_File_eq (a_self : Str) (a_other : Str) : Res Bool :=
  (andR (Res.ok true) (Res.ok (decide (a_self = a_other)))).bind fun z1 => Res.ok z1

def m_History_eq (a_self : (Str × List (Int × Str))) (a_other : (Str × List (Int × Str))) : Res Bool :=
  (andR (Res.ok true) (andR ((m_File_eq a_self.1 a_other.1).ne.bind fun z1 => Res.ok z1) ((peq (pyL (py2 pyI pyS)).ok a_self.2 a_other.2).bind fun z2 => Res.ok z2))).bind fun z3 => Res.ok z3

def m_law (a_script : (List Int)) : Res Bool :=
  (m_law_spring a_script (0 : Int)).bind fun z2 => (m_law_sip z2 (13 : Int)).bind fun z4 => (m_law_cells z4.2 z4.1).bind fun z5 => (plenS z5.1).bind fun z6 => (m_law_writes z5.2 z6 (4 : Int)).bind fun z7 => (m_File_make z5.1).bind fun z8 => (m_History_make z8 (some z7.1)).bind fun z9 => (m_law_states z5.1 z7.1).bind fun z10 => (plenS z5.1).bind fun z11 => (m_law_sip z7.2 (5 : Int)).bind fun z12 => (m_law_sip z12.2 (20 : Int)).bind fun z13 => (psrtSet ([(max (1 : Int) ((z11 + (3 : Int)) / (4 : Int))), ((max (1 : Int) ((z11 + (3 : Int)) / (4 : Int))) + z12.1), ((max (1 : Int) ((z11 + (3 : Int)) / (4 : Int))) + z13.1), (4096 : Int), ((10 : Int) ^ Int.toNat (39 : Int))] : List Int)).bind fun z14 => (forR (ρ := Bool) (fun (s15 : Unit) x16 => (m_law_right z9 z10 x16 false).bind fun z19 => cond z19 ((m_law_right z9 z10 x16 true).bind fun z21 => cond z21 (Res.ok (Ctl.nx ())) (Res.ok (Ctl.rt false))) (Res.ok (Ctl.rt false))) z14 ()).bind (Ctl.fin (fun s15 => (m_File_make ("aaa" : Str)).bind fun z26 => (m_History_make z26 (some ([((0 : Int), ("b" : Str)), ((1 : Int), ("c" : Str)), ((2 : Int), ("d" : Str))] : List (Int × Str)))).bind fun z27 => (m_copy_count z27 (1 : Int) false).bind fun z28 => cond (!decide (z28 = (8 : Int))) (Res.ok false) ((m_copy_at z27 (1 : Int) (2 : Int) false).bind fun z30 => cond (!decide (z30 = ("aca" : Str))) (Res.ok false) ((m_copy_at z27 (1 : Int) (2 : Int) true).bind fun z32 => cond (!decide (z32 = ("bca" : Str))) (Res.ok false) ((m_copy_moments z27 (1 : Int) ("baa" : Str) true).bind fun z34 => (peq (pyO (pyL pyI) (fun _ => ⟨rfl, rfl⟩)).ok z34 (some ([(1 : Int), (0 : Int), (0 : Int)] : List Int))).bind fun z35 => cond (!z35) (Res.ok false) ((m_late_block z27 (1 : Int) ("aca" : Str) true).bind fun z37 => (peq (pyO (py2 pyI pyI) (fun _ => ⟨rfl, rfl⟩)).ok z37 (some ((0 : Int), (2 : Int)))).bind fun z38 => cond (!z38) (Res.ok false) ((m_File_make z5.1).bind fun z40 => (m_History_make z40 (some z7.1)).bind fun z41 => (m_History_eq z9 z41).ne.bind fun z42 => Res.ok z42)))))) (fun r => Res.ok r))
end Kh

set_option Elab.async false
set_option linter.all false
set_option maxRecDepth 100000
set_option maxHeartbeats 4000000
namespace Kh
open PySem PySem.Spec L2
open PySem.W (Frag)
abbrev PR : Program := PySem.Challenge.rw_keptholes_k52_copies_by_all_moments.prog
section
variable {w : World} {K : Frag} {mg : Str → Option Value} {base : Heap}
def clR (R : Prg K mg) : OK → Addr × List Str
  | .file => (R.C_File, ["row"])
  | .history => (R.C_History, ["start", "rows"])
  | _ => (0, [])
def exE (R : Prg K mg) : Er → Exn
  | ⟨.file, v⟩ => ⟨R.C_InvalidFile, ["value"], [anyD (clR R) v]⟩
  | ⟨.number, v⟩ => ⟨R.C_InvalidNumber, ["value"], [anyD (clR R) v]⟩
  | ⟨.list, v⟩ => ⟨R.C_InvalidList, ["value"], [anyD (clR R) v]⟩
  | ⟨.write, v⟩ => ⟨R.C_InvalidWrite, ["value"], [anyD (clR R) v]⟩
  | ⟨.history, v⟩ => ⟨R.C_InvalidHistory, ["value"], [anyD (clR R) v]⟩
  | ⟨.content, v⟩ => ⟨R.C_InvalidContent, ["value"], [anyD (clR R) v]⟩
  | _ => ⟨0, [], []⟩
/-! plain words -/
theorem ln {ds : List Dat} (h : Nat.ble ds.length 1000 = true := by rfl) : ds.length ≤ sizeLine := Nat.le_trans (Nat.le_of_ble_eq_true h) (by decide)
/-- the script: a list of at most 63 whole numbers -/
def spLaw : Spc := fun ds M P _ => ∃ ns : List Int, ns.length ≤ 63 ∧ ds = [.scr ns] ∧ M = [] ∧ P (.bl true) []
theorem law_sp {K : Frag} {H : Hp} {a : Addr} {ns : List Int} (hl : ns.length ≤ 63) (hS : SqL K H a (ns.map V.int)) : toSp K spLaw [.ref a] H (fun v _ => v = .bl true) fun _ _ _ => False := law_spS hS ⟨ns, hl, rfl, rfl, rfl⟩
def S_law_spring (R : Prg K mg) : Spc := fun ds M P E => ∃ (a_script : (List Int)) (a_at : Int), ds = [(.scr a_script), (.int a_at)] ∧ (m_law_spring a_script a_at).Out (fun r => ∀ q, P (.raw (.ref q)) ((q, .lst (r.map Dat.int)) :: M)) (fun x => E (exE R x) M)
theorem ok_law_spring (R : Prg K mg) : FnD PR w K mg base 1 R.f_law_spring R.d_law_spring P_law_spring (S_law_spring R) := by
  refine fn_d false R.F_law_spring sc_law_spring (fun h => nomatch h) (fun ds M P E ⟨_, _, e, _⟩ => by rw [e]; rfl) fun cdv A outer s H E hr ds M Pd PE h => ?_
  obtain ⟨a_script, a_at, rfl, h⟩ := h
  have hu := hr.units
  refine WS.ends ?_
  refine ws_set <| ex_bin <| ex_bin <| ex_int <| ex_var ⟨rfl, rfl⟩ <| o_mulS (.inl (by decide)) <| ex_int <| o_add <| ?_
  refine ws_ifQ (fun Q τ M' => ∃ s1 : Int, ∃ d3 d4 d5 d6 d7, [some (.scr a_script), some (.int a_at), some (.int s1), d3, d4, d5, d6, d7] = τ ∧ M = M' ∧ Q s1) (ob h) (fun _ h => et_cmp <| ex_var ⟨rfl, rfl⟩ <| ex_callB R.n_len PyProof.Rows.Boot.«len» <| ea_cons <| ex_var ⟨rfl, rfl⟩ <| ea_nil <| c_len_scr <| o_lt <| ⟨_, rfl, cif h (fun h => ?g4) (fun h => ?g5)⟩) ?k27
  case g4 =>
    refine ws_set <| ex_ix <| ex_var ⟨rfl, rfl⟩ <| ex_var ⟨rfl, rfl⟩ <| r_ixScr (ob h) fun z2 h => ?_
    exact ws_nil ⟨z2, _, _, _, _, _, rfl, rfl, h⟩
  case g5 =>
    exact ws_nil ⟨(((17 : Int) * a_at) + (3 : Int)), _, _, _, _, _, rfl, rfl, h⟩
  case k27 =>
    rintro _ _ ⟨s1, d3, d4, d5, d6, d7, rfl, rfl, h⟩
    refine ws_if <| et_cmp <| ex_var ⟨rfl, rfl⟩ <| ex_bin <| ex_int <| ex_int <| o_powW (by decide +kernel) <| o_ge <| ⟨_, rfl, cif h (fun h => ?g12) (fun h => ?g26)⟩
    case g12 =>
      refine ws_set <| ex_bin <| ex_bin <| ex_bin <| ex_bin <| ex_int <| ex_int <| o_powW (by decide +kernel) <| ex_bin <| ex_int <| ex_int <| o_powW (by decide +kernel) <| r_mul (ob h) fun z6 h => ex_bin <| ex_int <| ex_int <| o_powW (by decide +kernel) <| r_mul (ob h) fun z7 h => ex_bin <| ex_int <| ex_int <| o_powW (by decide +kernel) <| r_mul (ob h) fun z8 h => ?_
      exact ws_ret <| ex_lstC <| ea_cons <| ex_bin <| ex_callTy R.n_int PyProof.Rows.Boot.«int» <| ea_cons <| ex_bin <| ex_var ⟨rfl, rfl⟩ <| ex_bin <| ex_int <| ex_int <| o_powW (by decide +kernel) <| o_sub <| ea_nil <| c_int_i <| ex_bin <| ex_var ⟨rfl, rfl⟩ <| ex_var ⟨rfl, rfl⟩ <| r_mul (ob h) fun z9 h => r_mod (ob h) fun z10 h => ea_nil ⟨ln, fun q _ => dN [] (h q)⟩
    case g26 =>
      refine ws_nil ?_
      refine ws_par <| ea_cons <| ex_bin <| ex_callTy R.n_int PyProof.Rows.Boot.«int» <| ea_cons <| ex_bin <| ex_var ⟨rfl, rfl⟩ <| ex_bin <| ex_int <| ex_var ⟨rfl, rfl⟩ <| o_mulS (.inl (by decide)) <| o_add <| ea_nil <| c_int_i <| ex_int <| o_mod (by decide) <| ea_cons <| ex_bin <| ex_callTy R.n_int PyProof.Rows.Boot.«int» <| ea_cons <| ex_var ⟨rfl, rfl⟩ <| ea_nil <| c_int_i <| ex_int <| o_mod (by decide) <| ea_nil ⟨_, _, rfl, ?_⟩
      refine ws_set <| ex_int <| ?_
      refine ws_forT <| ei_rng1 R.n_range <| ex_int <| ⟨(46 : Int), rfl, by decide, foldT Dat.int (xs := (rangeL 0 (Int.toNat (46 : Int)))) (fun (s13 : (Int × Int × Int)) τ M' => ∃ d3 d7, [some (.scr a_script), some (.int a_at), some (.int s1), d3, some (.int s13.1), some (.int s13.2.1), some (.int s13.2.2), d7] = τ ∧ M = M') (ob h) ⟨_, _, rfl, rfl⟩ (fun _ _ _ _ => trivial) ?g22 ?g23⟩
      case g22 =>
        rintro x14 s13 _ _ N ⟨d3, d7, rfl, rfl⟩ h
        refine gx_name  <| ?_
        refine ws_set <| ex_bin <| ex_callTy R.n_int PyProof.Rows.Boot.«int» <| ea_cons <| ex_bin <| ex_bin <| ex_bin <| ex_bin <| ex_var ⟨rfl, rfl⟩ <| ex_int <| o_mulS (.inr (by decide)) <| ex_bin <| ex_var ⟨rfl, rfl⟩ <| ex_int <| o_mulS (.inr (by decide)) <| o_add <| ex_bin <| ex_int <| ex_var ⟨rfl, rfl⟩ <| o_mulS (.inl (by decide)) <| o_add <| ex_int <| o_add <| ea_nil <| c_int_i <| ex_int <| o_mod (by decide) <| ?_
        refine ws_set <| ex_bin <| ex_callTy R.n_int PyProof.Rows.Boot.«int» <| ea_cons <| ex_bin <| ex_bin <| ex_bin <| ex_var ⟨rfl, rfl⟩ <| ex_var ⟨rfl, rfl⟩ <| r_mul (ob h) fun z17 h => ex_bin <| ex_int <| ex_var ⟨rfl, rfl⟩ <| o_mulS (.inl (by decide)) <| o_add <| ex_int <| o_add <| ea_nil <| c_int_i <| ex_int <| o_mod (by decide) <| ?_
        refine ws_set <| ex_bin <| ex_bin <| ex_var ⟨rfl, rfl⟩ <| ex_int <| o_mulS (.inr (by decide)) <| ex_bin <| ex_callTy R.n_int PyProof.Rows.Boot.«int» <| ea_cons <| ex_bin <| ex_bin <| ex_var ⟨rfl, rfl⟩ <| ex_var ⟨rfl, rfl⟩ <| r_mul (ob h) fun z18 h => ex_bin <| ex_int <| ex_var ⟨rfl, rfl⟩ <| o_mulS (.inl (by decide)) <| o_add <| ea_nil <| c_int_i <| ex_int <| o_mod (by decide) <| o_add <| ?_
        exact ws_nil ⟨((((((s13.1 * (39373 : Int)) + (x14 * (977 : Int))) + ((4099 : Int) * a_at)) + (5 : Int)) % (2147483543 : Int)), (((z17 + ((48611 : Int) * x14)) + (2713 : Int)) % (2147483497 : Int)), ((s13.2.2 * (2147483496 : Int)) + ((z18 + ((31 : Int) * x14)) % (2147483496 : Int)))), ⟨_, _, rfl, rfl⟩, h⟩
      case g23 =>
        rintro s13 _ _ ⟨d3, d7, rfl, rfl⟩ h
        exact ws_ret <| ex_lstC <| ea_cons <| ex_var ⟨rfl, rfl⟩ <| ea_nil ⟨ln, fun q _ => dN [] (h q)⟩

def S_law_sip (R : Prg K mg) : Spc := fun ds M P E => ∃ (P_spring : Addr) (a_spring : (List Int)) (a_many : Int), ds = [.raw (.ref P_spring), (.int a_many)] ∧ M = [(P_spring, .lst (a_spring.map Dat.int))] ∧ (m_law_sip a_spring a_many).Out (fun r => P (.int r.1) [(P_spring, .lst (r.2.map Dat.int))]) (fun _ => False)
theorem ok_law_sip (R : Prg K mg) : FnD PR w K mg base 1 R.f_law_sip R.d_law_sip P_law_sip (S_law_sip R) := by
  refine fn_d false R.F_law_sip sc_law_sip (fun h => nomatch h) (fun ds M P E ⟨_, _, _, e, _⟩ => by rw [e]; rfl) fun cdv A outer s H E hr ds M Pd PE h => ?_
  obtain ⟨P_spring, a_spring, a_many, rfl, rfl, h⟩ := h
  have hu := hr.units
  refine WS.ends ?_
  refine ws_set <| ex_bin <| ex_callTy R.n_int PyProof.Rows.Boot.«int» <| ea_cons <| ex_ix <| ex_var ⟨rfl, rfl⟩ <| ex_int <| r_ixC [] Dat.int (xs := a_spring) (ob h) fun z1 h => ea_nil <| c_int_i <| ex_var ⟨rfl, rfl⟩ <| r_mod (ob h) fun z2 h => ?_
  refine ws_asg <| ex_bin <| ex_ix <| ex_var ⟨rfl, rfl⟩ <| ex_int <| r_ixC [] Dat.int (xs := a_spring) (ob h) fun z3 h => ex_var ⟨rfl, rfl⟩ <| r_div (ob h) fun z4 h => gx_subT <| ex_var ⟨rfl, rfl⟩ <| ex_int <| r_set [] Dat.int (xs := a_spring) (x := z4) (ob h) fun z5 h => ?_
  exact ws_ret <| ex_var ⟨rfl, rfl⟩ <| (dN [] h)

def S_law_cells (R : Prg K mg) : Spc := fun ds M P E => ∃ (P_spring : Addr) (a_spring : (List Int)) (a_length : Int), ds = [.raw (.ref P_spring), (.int a_length)] ∧ M = [(P_spring, .lst (a_spring.map Dat.int))] ∧ (m_law_cells a_spring a_length).Out (fun r => P (.str r.1) [(P_spring, .lst (r.2.map Dat.int))]) (fun _ => False)
theorem ok_law_cells (R : Prg K mg) : FnD PR w K mg base 2 R.f_law_cells R.d_law_cells P_law_cells (S_law_cells R) := by
  refine fn_d false R.F_law_cells sc_law_cells (fun h => nomatch h) (fun ds M P E ⟨_, _, _, e, _⟩ => by rw [e]; rfl) fun cdv A outer s H E hr ds M Pd PE h => ?_
  obtain ⟨P_spring, a_spring, a_length, rfl, rfl, h⟩ := h
  have hu := hr.units
  refine WS.ends ?_
  refine ws_set <| ex_ix <| ex_lst <| ea_cons <| ex_str <| ea_cons <| ex_str <| ea_cons <| ex_str <| ea_cons <| ex_str <| ea_nil ⟨ln, ex_callA (ok_law_sip R) (hr.mono (by decide)) R.m_law_sip R.F_law_sip R.b_law_sip <| ea_cons <| ex_var ⟨rfl, rfl⟩ <| ea_cons <| ex_int <| ea_nil <| apC [] ⟨_, a_spring, (4 : Int), rfl, rfl, outC1 (ob h) (fun z1 h => r_ix Dat.str (xs := ([("..0ab" : Str), (".0abcd" : Str), ("aab0." : Str), ("abcdefghijklmnopqrstuvwxyz.0" : Str)] : List Str)) (ob h) fun z2 h => ?_) (fun _ h => h)⟩⟩
  exact ws_ret <| ex_join <| ex_str <| ⟨.str, ea_cons <| ex_lcT [("at", 3)] <| ei_rng1 R.n_range <| ex_var ⟨rfl, rfl⟩ <| ⟨a_length, rfl, (gd (ob h)).1, have h := (gd (ob h)).2; compST Dat.int chD (xs := (rangeL 0 (Int.toNat a_length))) (fun (s5 : (List Int)) => (P_spring, .lst (s5.map Dat.int)) :: []) (ob h) (fun _ => trivial) (fun x4 s5 _ h s H C cl fp => gc_name  <| fun s H C cl fp => ef_nil ⟨fun _ s H C cl fp => ex_ix <| ex_var ⟨rfl, rfl⟩ <| ex_callA (ok_law_sip R) (hr.mono (by decide)) R.m_law_sip R.F_law_sip R.b_law_sip <| ea_cons <| ex_var ⟨rfl, rfl⟩ <| ea_cons <| ex_callB R.n_len PyProof.Rows.Boot.«len» <| ea_cons <| ex_var ⟨rfl, rfl⟩ <| ea_nil <| r_lenS (ob h) fun z6 h => ea_nil <| apC [] ⟨_, s5, z6, rfl, rfl, outC1 (ob h) (fun z7 h => r_ixS (ob h) fun z8 h => ⟨z8, z7.2, rfl, rfl, h⟩) (fun _ h => h)⟩, fun z => nomatch z⟩) (fun l9 h => ea_nil <| r_joinC (xs := l9.1) (ob h) fun z10 h => (dN [] h))⟩⟩

def S_law_text (R : Prg K mg) : Spc := fun ds M P E => ∃ (P_spring : Addr) (a_spring : (List Int)) (a_length : Int), ds = [.raw (.ref P_spring), (.int a_length)] ∧ M = [(P_spring, .lst (a_spring.map Dat.int))] ∧ (m_law_text a_spring a_length).Out (fun r => P (.str r.1) [(P_spring, .lst (r.2.map Dat.int))]) (fun _ => False)
theorem ok_law_text (R : Prg K mg) : FnD PR w K mg base 2 R.f_law_text R.d_law_text P_law_text (S_law_text R) := by
  refine fn_d false R.F_law_text sc_law_text (fun h => nomatch h) (fun ds M P E ⟨_, _, _, e, _⟩ => by rw [e]; rfl) fun cdv A outer s H E hr ds M Pd PE h => ?_
  obtain ⟨P_spring, a_spring, a_length, rfl, rfl, h⟩ := h
  have hu := hr.units
  refine WS.ends ?_
  refine ws_set <| ex_ix <| ex_lst <| ea_cons <| ex_str <| ea_cons <| ex_str <| ea_cons <| ex_str <| ea_cons <| ex_str <| ea_nil ⟨ln, ex_callA (ok_law_sip R) (hr.mono (by decide)) R.m_law_sip R.F_law_sip R.b_law_sip <| ea_cons <| ex_var ⟨rfl, rfl⟩ <| ea_cons <| ex_int <| ea_nil <| apC [] ⟨_, a_spring, (4 : Int), rfl, rfl, outC1 (ob h) (fun z1 h => r_ix Dat.str (xs := ([("0ab" : Str), ("0abcd" : Str), ("ab" : Str), ("abcdefghijklmnopqrstuvwxyz0" : Str)] : List Str)) (ob h) fun z2 h => ?_) (fun _ h => h)⟩⟩
  exact ws_ret <| ex_join <| ex_str <| ⟨.str, ea_cons <| ex_lcT [("at", 3)] <| ei_rng1 R.n_range <| ex_var ⟨rfl, rfl⟩ <| ⟨a_length, rfl, (gd (ob h)).1, have h := (gd (ob h)).2; compST Dat.int chD (xs := (rangeL 0 (Int.toNat a_length))) (fun (s5 : (List Int)) => (P_spring, .lst (s5.map Dat.int)) :: []) (ob h) (fun _ => trivial) (fun x4 s5 _ h s H C cl fp => gc_name  <| fun s H C cl fp => ef_nil ⟨fun _ s H C cl fp => ex_ix <| ex_var ⟨rfl, rfl⟩ <| ex_callA (ok_law_sip R) (hr.mono (by decide)) R.m_law_sip R.F_law_sip R.b_law_sip <| ea_cons <| ex_var ⟨rfl, rfl⟩ <| ea_cons <| ex_callB R.n_len PyProof.Rows.Boot.«len» <| ea_cons <| ex_var ⟨rfl, rfl⟩ <| ea_nil <| r_lenS (ob h) fun z6 h => ea_nil <| apC [] ⟨_, s5, z6, rfl, rfl, outC1 (ob h) (fun z7 h => r_ixS (ob h) fun z8 h => ⟨z8, z7.2, rfl, rfl, h⟩) (fun _ h => h)⟩, fun z => nomatch z⟩) (fun l9 h => ea_nil <| r_joinC (xs := l9.1) (ob h) fun z10 h => (dN [] h))⟩⟩

def S_law_writes (R : Prg K mg) : Spc := fun ds M P E => ∃ (P_spring : Addr) (a_spring : (List Int)) (a_length : Int) (a_most : Int), ds = [.raw (.ref P_spring), (.int a_length), (.int a_most)] ∧ M = [(P_spring, .lst (a_spring.map Dat.int))] ∧ (m_law_writes a_spring a_length a_most).Out (fun r => P ((lstD (pairD Dat.int Dat.str)) r.1) [(P_spring, .lst (r.2.map Dat.int))]) (fun _ => False)
theorem ok_law_writes (R : Prg K mg) : FnD PR w K mg base 3 R.f_law_writes R.d_law_writes P_law_writes (S_law_writes R) := by
  refine fn_d false R.F_law_writes sc_law_writes (fun h => nomatch h) (fun ds M P E ⟨_, _, _, _, e, _⟩ => by rw [e]; rfl) fun cdv A outer s H E hr ds M Pd PE h => ?_
  obtain ⟨P_spring, a_spring, a_length, a_most, rfl, rfl, h⟩ := h
  have hu := hr.units
  refine WS.ends ?_
  refine ws_set <| ex_lstC <| ea_nil ⟨ln, fun q1 _ => ?_⟩
  refine ws_forT <| ei_rng1 R.n_range <| ex_bin <| ex_callA (ok_law_sip R) (hr.mono (by decide)) R.m_law_sip R.F_law_sip R.b_law_sip <| ea_cons <| ex_var ⟨rfl, rfl⟩ <| ea_cons <| ex_bin <| ex_var ⟨rfl, rfl⟩ <| ex_int <| o_add <| ea_nil <| apC [_] ⟨_, a_spring, (a_most + (1 : Int)), rfl, rfl, outC1 (ob h) (fun z2 h => ex_callTy R.n_int PyProof.Rows.Boot.«int» <| ea_cons <| ex_cmp <| ex_var ⟨rfl, rfl⟩ <| ex_int <| o_gt <| ea_nil <| c_int_b <| r_mul (ob h) fun z3 h => ⟨z3, rfl, (gd (ob h)).1, have h := (gd (ob h)).2; foldT Dat.int (xs := (rangeL 0 (Int.toNat z3))) (fun (s4 : ((List (Int × Str)) × (List Int))) τ M' => ∃ d4 d5 d6 d7, [some (.raw (.ref P_spring)), some (.int a_length), some (.int a_most), some (.raw (.ref q1)), d4, d5, d6, d7] = τ ∧ (q1, .lst (s4.1.map (pairD Dat.int Dat.str))) :: (P_spring, .lst (s4.2.map Dat.int)) :: [] = M') (ob h) ⟨_, _, _, _, rfl, rfl⟩ (fun _ _ _ _ => trivial) ?g18 ?g19⟩) (fun _ h => h)⟩
  case g18 =>
    rintro x5 s4 _ _ N ⟨d4, d5, d6, d7, rfl, rfl⟩ h
    refine gx_name  <| ?_
    refine ws_set <| ex_callA (ok_law_sip R) (hr.mono (by decide)) R.m_law_sip R.F_law_sip R.b_law_sip <| ea_cons <| ex_var ⟨rfl, rfl⟩ <| ea_cons <| ex_var ⟨rfl, rfl⟩ <| ea_nil <| apC [_] ⟨_, s4.2, a_length, rfl, rfl, outC1 (ob h) (fun z8 h => ?_) (fun _ h => h)⟩
    refine ws_set <| ex_ix <| ex_lst <| ea_cons <| ex_int <| ea_cons <| ex_int <| ea_cons <| ex_int <| ea_cons <| ex_int <| ea_nil ⟨ln, ex_callA (ok_law_sip R) (hr.mono (by decide)) R.m_law_sip R.F_law_sip R.b_law_sip <| ea_cons <| ex_var ⟨rfl, rfl⟩ <| ea_cons <| ex_int <| ea_nil <| apC [_] ⟨_, z8.2, (4 : Int), rfl, rfl, outC1 (ob h) (fun z9 h => r_ix Dat.int (xs := ([(1 : Int), (2 : Int), (3 : Int), (9 : Int)] : List Int)) (ob h) fun z10 h => ?_) (fun _ h => h)⟩⟩
    refine ws_set <| ex_bin <| ex_int <| ex_callA (ok_law_sip R) (hr.mono (by decide)) R.m_law_sip R.F_law_sip R.b_law_sip <| ea_cons <| ex_var ⟨rfl, rfl⟩ <| ea_cons <| ex_callB R.n_min PyProof.Rows.Boot.«min» <| ea_cons <| ex_bin <| ex_var ⟨rfl, rfl⟩ <| ex_var ⟨rfl, rfl⟩ <| o_sub <| ea_cons <| ex_var ⟨rfl, rfl⟩ <| ea_nil <| c_minT <| ea_nil <| apC [_] ⟨_, z9.2, (min (a_length - z8.1) z10), rfl, rfl, outC1 (ob h) (fun z11 h => o_add <| ?_) (fun _ h => h)⟩
    refine ws_expr <| r_app [] (pairD Dat.int Dat.str) (xs := s4.1) <| ex_var ⟨rfl, rfl⟩ ⟨rfl, rfl, ea_cons <| ex_tup <| ea_cons <| ex_var ⟨rfl, rfl⟩ <| ea_cons <| ex_callA (ok_law_text R) (hr.mono (by decide)) R.m_law_text R.F_law_text R.b_law_text <| ea_cons <| ex_var ⟨rfl, rfl⟩ <| ea_cons <| ex_var ⟨rfl, rfl⟩ <| ea_nil <| apC [_] ⟨_, z11.2, ((1 : Int) + z11.1), rfl, rfl, outC1 (ob h) (fun z13 h => ea_nil ⟨ln, ea_nil <| b_app [] (pairD Dat.int Dat.str) (xs := s4.1) (x := (z8.1, z13.1)) (ob h) fun z12 h => ?_⟩) (fun _ h => h)⟩⟩
    exact ws_nil ⟨(z12, z13.2), ⟨_, _, _, _, rfl, rfl⟩, h⟩
  case g19 =>
    rintro s4 _ _ ⟨d4, d5, d6, d7, rfl, rfl⟩ h
    exact ws_ret <| ex_frz <| ex_var ⟨rfl, rfl⟩ ⟨_, _, _, rfl, (List.perm_middle (l₁ := [])), (dN [] h)⟩

abbrev fileD (R : Prg K mg) (z : Str) : Dat := .obj R.C_File ["row"] [.str z]
abbrev historyD (R : Prg K mg) (z : Str × List (Int × Str)) : Dat := .obj R.C_History ["start", "rows"] [fileD R z.1, lstD (pairD Dat.int Dat.str) z.2]

def S_check_file (R : Prg K mg) : Spc := fun ds M P E => ∃ (a_value : Str), ds = [((fileD R) a_value)] ∧ (m_check_file a_value).Out (fun r => P .non M) (fun x => E (exE R x) M)
theorem ok_check_file (R : Prg K mg) : FnD PR w K mg base 1 R.f_check_file R.d_check_file P_check_file (S_check_file R) := by
  refine fn_d false R.F_check_file sc_check_file (fun h => nomatch h) (fun ds M P E ⟨_, e, _⟩ => by rw [e]; rfl) fun cdv A outer s H E hr ds M Pd PE h => ?_
  obtain ⟨a_value, rfl, h⟩ := h
  have hu := hr.units
  refine WS.ends ?_
  refine ws_if <| et_not <| et_val <| ex_callB R.n_isinstance PyProof.Rows.Boot.«isinstance» <| ea_cons <| ex_var ⟨rfl, rfl⟩ <| ea_cons <| ex_gref R.mc_File <| ea_nil <| c_isi (k := true) (.own _) (.obj R.L_File) R.s_File_File <| ⟨_, rfl, (fun z => absurd z (by decide)), fun _ => ?_⟩
  refine ws_nil ?_
  exact ws_nil (dN [] h)

def S_is_whole (R : Prg K mg) : Spc := fun ds M P E => ∃ (a_value : Int), ds = [(.int a_value)] ∧ (m_is_whole a_value).Out (fun r => P (.bl r) M) (fun x => E (exE R x) M)
theorem ok_is_whole (R : Prg K mg) : FnD PR w K mg base 1 R.f_is_whole R.d_is_whole P_is_whole (S_is_whole R) := by
  refine fn_d false R.F_is_whole sc_is_whole (fun h => nomatch h) (fun ds M P E ⟨_, e, _⟩ => by rw [e]; rfl) fun cdv A outer s H E hr ds M Pd PE h => ?_
  obtain ⟨a_value, rfl, h⟩ := h
  have hu := hr.units
  refine WS.ends ?_
  exact ws_ret <| exJQ Dat.bl (ob h) (fun _ h => exA h (fun _ h => ex_callB R.n_isinstance PyProof.Rows.Boot.«isinstance» <| ea_cons <| ex_var ⟨rfl, rfl⟩ <| ea_cons <| ex_gty R.n_int PyProof.Rows.Boot.«int» <| ea_nil <| c_isi (k := true) (.ty _) .int (by rfl) <| ⟨rfl, true, rfl, h⟩) (fun h => ex_and1 <| ex_not <| ex_callB R.n_isinstance PyProof.Rows.Boot.«isinstance» <| ea_cons <| ex_var ⟨rfl, rfl⟩ <| ea_cons <| ex_gty R.n_bool PyProof.Rows.Boot.«bool» <| ea_nil <| c_isi (k := false) (.ty _) .int (by rfl) <| ⟨_, rfl, ⟨rfl, (!false), rfl, h⟩⟩)) fun z1 h => (dN [] h)

def S_is_content (R : Prg K mg) : Spc := fun ds M P E => ∃ (a_value : Str), ds = [(.str a_value)] ∧ (m_is_content a_value).Out (fun r => P (.bl r) M) (fun x => E (exE R x) M)
theorem ok_is_content (R : Prg K mg) : FnD PR w K mg base 1 R.f_is_content R.d_is_content P_is_content (S_is_content R) := by
  refine fn_d false R.F_is_content sc_is_content (fun h => nomatch h) (fun ds M P E ⟨_, e, _⟩ => by rw [e]; rfl) fun cdv A outer s H E hr ds M Pd PE h => ?_
  obtain ⟨a_value, rfl, h⟩ := h
  have hu := hr.units
  refine WS.ends ?_
  exact ws_ret <| exJQ Dat.bl (ob h) (fun _ h => exA h (fun _ h => ex_callB R.n_isinstance PyProof.Rows.Boot.«isinstance» <| ea_cons <| ex_var ⟨rfl, rfl⟩ <| ea_cons <| ex_gty R.n_str PyProof.Rows.Boot.«str» <| ea_nil <| c_isi (k := true) (.ty _) .str (by rfl) <| ⟨rfl, true, rfl, h⟩) (fun h => ex_and1 <| ex_cmp <| ex_lcT [("cell", 1)] <| ei_str <| ex_var ⟨rfl, rfl⟩ <| ⟨a_value, rfl, compT chD chD (xs := (signsL a_value)) (ob h) trivial (fun x1 _ h s H C cl fp => gc_name  <| fun s H C cl fp => ef_one <| et_cmp <| ex_var ⟨rfl, rfl⟩ <| ex_bin <| ex_str <| ex_gstr R.g_SIGNS <| r_cat (ob h) fun z2 h => o_notInS <| ⟨_, rfl, cif h (fun h => fun s H C cl fp => ex_var ⟨rfl, rfl⟩ <| ⟨rfl, x1, rfl, h⟩) (fun h => ⟨rfl, h⟩)⟩) (fun l3 h => ex_lst <| ea_nil ⟨ln, r_eqNilT chD hu <| ⟨rfl, (l3.isEmpty), rfl, h⟩⟩)⟩)) fun z4 h => (dN [] h)

def S_is_write (R : Prg K mg) : Spc := fun ds M P E => ∃ (a_value : (Int × Str)) (a_length : Int), ds = [((pairD Dat.int Dat.str) a_value), (.int a_length)] ∧ (m_is_write a_value a_length).Out (fun r => P (.bl r) M) (fun x => E (exE R x) M)
theorem ok_is_write (R : Prg K mg) : FnD PR w K mg base 2 R.f_is_write R.d_is_write P_is_write (S_is_write R) := by
  refine fn_d false R.F_is_write sc_is_write (fun h => nomatch h) (fun ds M P E ⟨_, _, e, _⟩ => by rw [e]; rfl) fun cdv A outer s H E hr ds M Pd PE h => ?_
  obtain ⟨a_value, a_length, rfl, h⟩ := h
  have hu := hr.units
  refine WS.ends ?_
  refine ws_if <| et_w <| ew_or <| et_not <| et_val <| ex_callB R.n_isinstance PyProof.Rows.Boot.«isinstance» <| ea_cons <| ex_var ⟨rfl, rfl⟩ <| ea_cons <| ex_gty R.n_tuple PyProof.Rows.Boot.«tuple» <| ea_nil <| c_isi (k := true) (.ty _) .tup (by rfl) <| ⟨_, rfl, (fun z => absurd z (by decide)), fun _ => ew_or <| et_cmp <| ex_callB R.n_len PyProof.Rows.Boot.«len» <| ea_cons <| ex_var ⟨rfl, rfl⟩ <| ea_nil <| c_len_tup <| ex_int <| o_neI <| ⟨_, rfl, cif h (fun h => ⟨fun _ => ?g1, fun z => nomatch z⟩) (fun h => ew_or <| et_not <| et_val <| ex_callF (ok_is_whole R) (hr.mono (by decide)) R.m_is_whole R.F_is_whole R.b_is_whole <| ea_cons <| ex_ix <| ex_var ⟨rfl, rfl⟩ <| ex_int <| i_tup rfl <| ea_nil <| ⟨a_value.1, rfl, outU (ob h) (fun z2 h => ⟨_, rfl, cifN h (fun h => ew_or1 <| et_not <| et_val <| ex_callF (ok_is_content R) (hr.mono (by decide)) R.m_is_content R.F_is_content R.b_is_content <| ea_cons <| ex_ix <| ex_var ⟨rfl, rfl⟩ <| ex_int <| i_tup rfl <| ea_nil <| ⟨a_value.2, rfl, outU (ob h) (fun z4 h => ⟨_, rfl, cifN h (fun h => ?g8) (fun h => ?g5)⟩) (fun _ h => dX [] h)⟩) (fun h => ⟨fun _ => ?g3, fun z => nomatch z⟩)⟩) (fun _ h => dX [] h)⟩)⟩⟩
  case g1 =>
    exact ws_ret <| ex_bl <| (dN [] h)
  case g3 =>
    exact ws_ret <| ex_bl <| (dN [] h)
  case g5 =>
    exact ws_ret <| ex_bl <| (dN [] h)
  case g8 =>
    refine ws_nil ?_
    exact ws_ret <| exJQ Dat.bl (ob h) (fun _ h => exA h (fun _ h => ex_cmp <| ex_ix <| ex_var ⟨rfl, rfl⟩ <| ex_int <| i_tup rfl <| ex_int <| o_ge <| ⟨rfl, (decide ((0 : Int) ≤ a_value.1)), rfl, h⟩) (fun h => exA h (fun _ h => ex_cmp <| ex_ix <| ex_var ⟨rfl, rfl⟩ <| ex_int <| i_tup rfl <| ex_str <| o_neT <| ⟨rfl, (!decide (a_value.2 = ("" : Str))), rfl, h⟩) (fun h => ex_and1 <| ex_cmp <| ex_bin <| ex_ix <| ex_var ⟨rfl, rfl⟩ <| ex_int <| i_tup rfl <| ex_callB R.n_len PyProof.Rows.Boot.«len» <| ea_cons <| ex_ix <| ex_var ⟨rfl, rfl⟩ <| ex_int <| i_tup rfl <| ea_nil <| r_lenS (ob h) fun z6 h => o_add <| ex_var ⟨rfl, rfl⟩ <| o_le <| ⟨rfl, (decide ((a_value.1 + z6) ≤ a_length)), rfl, h⟩))) fun z7 h => (dN [] h)

def S_check_write (R : Prg K mg) : Spc := fun ds M P E => ∃ (a_value : (Int × Str)) (a_length : Int), ds = [((pairD Dat.int Dat.str) a_value), (.int a_length)] ∧ (m_check_write a_value a_length).Out (fun r => P .non M) (fun x => E (exE R x) M)
theorem ok_check_write (R : Prg K mg) : FnD PR w K mg base 3 R.f_check_write R.d_check_write P_check_write (S_check_write R) := by
  refine fn_d false R.F_check_write sc_check_write (fun h => nomatch h) (fun ds M P E ⟨_, _, e, _⟩ => by rw [e]; rfl) fun cdv A outer s H E hr ds M Pd PE h => ?_
  obtain ⟨a_value, a_length, rfl, h⟩ := h
  have hu := hr.units
  refine WS.ends ?_
  refine ws_if <| et_not <| et_val <| ex_callF (ok_is_write R) (hr.mono (by decide)) R.m_is_write R.F_is_write R.b_is_write <| ea_cons <| ex_var ⟨rfl, rfl⟩ <| ea_cons <| ex_var ⟨rfl, rfl⟩ <| ea_nil <| ⟨a_value, a_length, rfl, outU (ob h) (fun z1 h => ⟨_, rfl, cifN h (fun h => ?g3) (fun h => ?g2)⟩) (fun _ h => dX [] h)⟩
  case g2 =>
    exact ws_raise rfl R.S_InvalidWrite R.mc_InvalidWrite R.n_super hr <| ex_asA <| ex_var ⟨rfl, rfl⟩ <| ⟨anyD (clR R) (Any.tup [(Any.int a_value.1), (Any.str a_value.2)]), (by first | rfl | (simp only [anyD, anyDL, anyDL_map, List.map_map]; done) | (simp only [anyD, anyDL, anyDL_map, List.map_map]; rfl) | (simp only [anyD, anyDL, anyDL_map, List.map_map, stepA_comp, stepA_D]; rfl) | (simp only [anyD, anyDL, anyDL_map, List.map_map, stepA_comp, stepA_D]; done)), (dX [] h)⟩
  case g3 =>
    refine ws_nil ?_
    exact ws_nil (dN [] h)

def S_File_len (R : Prg K mg) : Spc := fun ds M P E => ∃ (a_self : Str), ds = [((fileD R) a_self)] ∧ (m_File_len a_self).Out (fun r => P (.int r) M) (fun x => E (exE R x) M)
theorem ok_File_len (R : Prg K mg) : FnD PR w K mg base 1 R.f_File_len R.d_File_len P_File_len (S_File_len R) := by
  refine fn_d false R.F_File_len sc_File_len (fun h => nomatch h) (fun ds M P E ⟨_, e, _⟩ => by rw [e]; rfl) fun cdv A outer s H E hr ds M Pd PE h => ?_
  obtain ⟨a_self, rfl, h⟩ := h
  have hu := hr.units
  refine WS.ends ?_
  exact ws_ret <| ex_callB R.n_len PyProof.Rows.Boot.«len» <| ea_cons <| ex_fld <| ex_var ⟨rfl, rfl⟩ <| ⟨_, ⟨_, R.L_File.cl, R.A_File_row, .inl ⟨_, _, rfl, rfl, rfl⟩⟩, ea_nil <| r_lenS (ob h) fun z1 h => (dN [] h)⟩

def S_History_init (R : Prg K mg) : Spc := fun ds M P E => ∃ (P_self dx_P_self : Addr) (a_file : Str) (a_writes : (Option (List (Int × Str)))) (M0 : Mem), ds = [.raw (.ref P_self), ((fileD R) a_file), ((optD (lstD (pairD Dat.int Dat.str))) a_writes)] ∧ M = (P_self, .ins R.C_History dx_P_self []) :: M0 ∧ (m_History_make a_file a_writes).Out (fun r => P .non ((P_self, .ins R.C_History dx_P_self [("start", ((fileD R) r.1)), ("rows", ((lstD (pairD Dat.int Dat.str)) r.2))]) :: M0)) (fun x => E (exE R x) M)
theorem ok_History_init (R : Prg K mg) : FnD PR w K mg base 4 R.f_History_init R.d_History_init P_History_init (S_History_init R) := by
  refine fn_dV false R.F_History_init sc_History_init (fun h => nomatch h) (fun ds M P E ⟨_, _, _, _, _, e, _⟩ => by rw [e]; rfl) fun cdv A outer s H E hr ds M Pd PE h => ?_
  obtain ⟨P_self, dx_P_self, a_file, a_writes, M0, rfl, rfl, h⟩ := h
  have hu := hr.units
  refine WS.ends ?_
  refine ws_expr <| ex_callF (ok_check_file R) (hr.mono (by decide)) R.m_check_file R.F_check_file R.b_check_file <| ea_cons <| ex_var ⟨rfl, rfl⟩ <| ea_nil <| ⟨a_file, rfl, outU (ob h) (fun z1 h => ?_) (fun _ h => dX [] h)⟩
  refine ws_set <| exJQ (lstD (pairD Dat.int Dat.str)) (ob h) (fun _ h => (match a_writes, h with | none, h => ex_if <| et_cmp <| ex_var ⟨rfl, rfl⟩ <| ex_non <| o_isNN ⟨_, rfl, (fun _ => ex_lst <| ea_nil ⟨ln, ⟨rfl, ([] : List (Int × Str)), rfl, h⟩⟩), fun z => nomatch z⟩ | some z2, h => ex_if <| et_cmp <| ex_var ⟨rfl, rfl⟩ <| ex_non <| o_isNA rfl ⟨_, rfl, (fun z => nomatch z), fun _ => ex_var ⟨rfl, rfl⟩ ⟨rfl, z2, rfl, h⟩⟩)) fun z3 h => ?_
  refine ws_if <| et_not <| et_val <| ex_callB R.n_isinstance PyProof.Rows.Boot.«isinstance» <| ea_cons <| ex_var ⟨rfl, rfl⟩ <| ea_cons <| ex_gty R.n_list PyProof.Rows.Boot.«list» <| ea_nil <| c_isi (k := true) (.ty _) .lst (by rfl) <| ⟨_, rfl, (fun z => absurd z (by decide)), fun _ => ?_⟩
  refine ws_nil ?_
  refine ws_forT <| ei_list <| ex_var ⟨rfl, rfl⟩ <| ⟨_, rfl, foldT (pairD Dat.int Dat.str) (xs := z3) (fun (s4 : Unit) τ M' => ∃ d4, [some (.raw (.ref P_self)), some ((fileD R) a_file), some ((optD (lstD (pairD Dat.int Dat.str))) a_writes), some ((lstD (pairD Dat.int Dat.str)) z3), d4] = τ ∧ (P_self, .ins R.C_History dx_P_self []) :: M0 = M') (ob h) ⟨_, rfl, rfl⟩ (fun _ _ _ _ => trivial) ?g11 ?g12⟩
  case g11 =>
    rintro x5 s4 _ _ N ⟨d4, rfl, rfl⟩ h
    refine gx_name  <| ?_
    refine ws_expr <| ex_callF (ok_check_write R) (hr.mono (by decide)) R.m_check_write R.F_check_write R.b_check_write <| ea_cons <| ex_var ⟨rfl, rfl⟩ <| ea_cons <| ex_callB R.n_len PyProof.Rows.Boot.«len» <| ea_cons <| ex_var ⟨rfl, rfl⟩ <| ea_nil <| c_lenOwn (ok_File_len R) (hr.mono (by decide)) R.M_File_len.1 R.M_File_len.2 R.b_File_len (fun _ => .inl ⟨_, _, rfl, by decide⟩) ⟨a_file, rfl, lenO (ob h) fun z8 h => ea_nil <| ⟨x5, z8, rfl, outU (ob h) (fun z9 h => ?_) (fun _ h => dX [] h)⟩⟩
    exact ws_nil ⟨(), ⟨_, rfl, rfl⟩, h⟩
  case g12 =>
    rintro s4 _ _ ⟨d4, rfl, rfl⟩ h
    refine ws_fldA <| ex_var ⟨rfl, rfl⟩ <| ex_var ⟨rfl, rfl⟩ ⟨P_self, R.C_History, dx_P_self, [], [("start", ((fileD R) a_file))], [], _, rfl, rfl, R.L_History.cl, R.A_History_start, (by simp), (by first | rfl | simp [putD]), ?_⟩
    refine ws_fldA <| ex_callTy R.n_list PyProof.Rows.Boot.«list» <| ea_cons <| ex_var ⟨rfl, rfl⟩ <| ea_nil <| c_listT (pairD Dat.int Dat.str) (xs := z3) <| ex_var ⟨rfl, rfl⟩ ⟨P_self, R.C_History, dx_P_self, [("start", ((fileD R) a_file))], [("start", ((fileD R) a_file)), ("rows", ((lstD (pairD Dat.int Dat.str)) z3))], [], _, rfl, rfl, R.L_History.cl, R.A_History_rows, (by simp), (by first | rfl | simp [putD]), ?_⟩
    exact ws_nil (dN [] h)
theorem mk_History {R : Prg K mg} {q dx : Addr} {a_file : Str} {a_writes : (Option (List (Int × Str)))} {M : Mem} {P : PK'} {E : XKx} {E1 : Er → Prop} {Q : (Str × List (Int × Str)) → Prop} (h : (m_History_make a_file a_writes).Out Q E1) (hk : ∀ r, Q r → P (historyD R r) M) (hx : ∀ x, E1 x → E (exE R x) ((q, .ins R.C_History dx []) :: M)) :
    AP (S_History_init R) [.raw (.ref q), ((fileD R) a_file), ((optD (lstD (pairD Dat.int Dat.str))) a_writes)] ((q, .ins R.C_History dx []) :: M) (fun d M2 => d = .non ∧ MadeP P q M2) E :=
  ap_all ⟨q, dx, a_file, a_writes, M, rfl, rfl, out_mono h (fun r hr => .mk ⟨rfl, made_ok (fs := [("start", ((fileD R) r.1)), ("rows", ((lstD (pairD Dat.int Dat.str)) r.2))]) (hk r hr)⟩) fun x h => .mk (hx x h)⟩

def S_are_cells (R : Prg K mg) : Spc := fun ds M P E => ∃ (a_value : Str), ds = [(.str a_value)] ∧ (m_are_cells a_value).Out (fun r => P (.bl r) M) (fun x => E (exE R x) M)
theorem ok_are_cells (R : Prg K mg) : FnD PR w K mg base 1 R.f_are_cells R.d_are_cells P_are_cells (S_are_cells R) := by
  refine fn_d false R.F_are_cells sc_are_cells (fun h => nomatch h) (fun ds M P E ⟨_, e, _⟩ => by rw [e]; rfl) fun cdv A outer s H E hr ds M Pd PE h => ?_
  obtain ⟨a_value, rfl, h⟩ := h
  have hu := hr.units
  refine WS.ends ?_
  exact ws_ret <| exJQ Dat.bl (ob h) (fun _ h => exA h (fun _ h => ex_callB R.n_isinstance PyProof.Rows.Boot.«isinstance» <| ea_cons <| ex_var ⟨rfl, rfl⟩ <| ea_cons <| ex_gty R.n_str PyProof.Rows.Boot.«str» <| ea_nil <| c_isi (k := true) (.ty _) .str (by rfl) <| ⟨rfl, true, rfl, h⟩) (fun h => ex_and1 <| ex_cmp <| ex_lcT [("cell", 1)] <| ei_str <| ex_var ⟨rfl, rfl⟩ <| ⟨a_value, rfl, compT chD chD (xs := (signsL a_value)) (ob h) trivial (fun x1 _ h s H C cl fp => gc_name  <| fun s H C cl fp => ef_one <| et_cmp <| ex_var ⟨rfl, rfl⟩ <| ex_bin <| ex_str <| ex_gstr R.g_SIGNS <| r_cat (ob h) fun z2 h => o_notInS <| ⟨_, rfl, cif h (fun h => fun s H C cl fp => ex_var ⟨rfl, rfl⟩ <| ⟨rfl, x1, rfl, h⟩) (fun h => ⟨rfl, h⟩)⟩) (fun l3 h => ex_lst <| ea_nil ⟨ln, r_eqNilT chD hu <| ⟨rfl, (l3.isEmpty), rfl, h⟩⟩)⟩)) fun z4 h => (dN [] h)

def S_File_init (R : Prg K mg) : Spc := fun ds M P E => ∃ q dx z M0, ds = [.raw (.ref q), .str z] ∧ M = (q, .ins R.C_File dx []) :: M0 ∧ (m_File_make z).Out (fun r => P .non ((q, .ins R.C_File dx [("row", .str r)]) :: M0)) (fun x => E (exE R x) M)
theorem ok_File_init (R : Prg K mg) : FnD PR w K mg base 2 R.f_File_init R.d_File_init P_File_init (S_File_init R) := by
  refine fn_dV false R.F_File_init sc_File_init (fun h => nomatch h) (fun ds M P E ⟨_, _, _, _, e, _⟩ => by rw [e]; rfl) fun cdv A outer s H E hr ds M Pd PE h => ?_
  obtain ⟨q, dx, z, M0, rfl, rfl, h⟩ := h
  refine ws_if <| et_not <| et_val <| ex_callF (ok_are_cells R) (hr.mono (by decide)) R.m_are_cells R.F_are_cells R.b_are_cells <| ea_cons <| ex_var ⟨rfl, rfl⟩ <| ea_nil ⟨z, rfl, outU (ob h) (fun b h => ⟨_, rfl, cifN h (fun h => ?g1) (fun h => ?g2)⟩) (fun _ h => h)⟩
  case g1 =>
    refine ws_nil ?_
    exact ws_fld <| ex_var ⟨rfl, rfl⟩ <| ex_var ⟨rfl, rfl⟩ ⟨q, _, dx, [], rfl, List.mem_cons_self, R.L_File.cl, R.A_File_row, by decide, ws_nil (by have h2 : Pd .non ((q, .ins R.C_File dx [("row", .str z)]) :: M0) := h; show Pd .non _; simpa [putC, putD] using h2)⟩
  case g2 => exact ws_raise rfl R.S_InvalidFile R.mc_InvalidFile R.n_super hr <| ex_var ⟨rfl, rfl⟩ h
theorem mk_File {R : Prg K mg} {q dx : Addr} {z : Str} {M : Mem} {P : PK'} {E : XKx} {E1 : Er → Prop} {Q : Str → Prop} (h : (m_File_make z).Out Q E1) (hk : ∀ r, Q r → P (fileD R r) M) (hx : ∀ x, E1 x → E (exE R x) ((q, .ins R.C_File dx []) :: M)) :
    AP (S_File_init R) [.raw (.ref q), .str z] ((q, .ins R.C_File dx []) :: M) (fun d M2 => d = .non ∧ MadeP P q M2) E :=
  ap_all ⟨q, dx, z, M, rfl, rfl, out_mono h (fun r hr => .mk ⟨rfl, made_ok (fs := [("row", .str r)]) (hk r hr)⟩) fun x h => .mk (hx x h)⟩

def S_law_states (R : Prg K mg) : Spc := fun ds M P E => ∃ (a_cells : Str) (a_writes : (List (Int × Str))), ds = [(.str a_cells), ((lstD (pairD Dat.int Dat.str)) a_writes)] ∧ (m_law_states a_cells a_writes).Out (fun r => P ((lstD Dat.str) r) M) (fun x => E (exE R x) M)
theorem ok_law_states (R : Prg K mg) : FnD PR w K mg base 1 R.f_law_states R.d_law_states P_law_states (S_law_states R) := by
  refine fn_d true R.F_law_states sc_law_states (fun _ => ⟨"cells", by decide, by rfl⟩) (fun ds M P E ⟨_, _, e, _⟩ => by rw [e]; rfl) fun cdv A outer s H E hr ds M Pd PE h => ?_
  obtain ⟨a_cells, a_writes, rfl, h⟩ := h
  have hu := hr.units
  refine WS.ends ?_
  refine ws_set <| ex_lstC <| ea_cons <| ex_repl <| ex_var ⟨rfl, rfl⟩ <| ⟨_, _, _, rfl, ob h, fun z2 h => ea_nil ⟨ln, fun q1 _ => ?_⟩⟩
  refine ws_forT <| ei_list <| ex_var ⟨rfl, rfl⟩ <| ⟨_, rfl, foldT (pairD Dat.int Dat.str) (xs := a_writes) (fun (s3 : (List Str)) τ M' => ∃ d3 d4 d5, [some (.str a_cells), some ((lstD (pairD Dat.int Dat.str)) a_writes), some (.raw (.ref q1)), d3, d4, d5] = τ ∧ (q1, .lst (s3.map Dat.str)) :: M = M') (ob h) ⟨_, _, _, rfl, rfl⟩ (fun _ _ _ _ => trivial) ?g16 ?g17⟩
  case g16 =>
    rintro x4 s3 _ _ N ⟨d3, d4, d5, rfl, rfl⟩ h
    refine gx_tup <| gxs_cons <| gx_name  <| gxs_cons <| gx_name  <| gxs_nil <| ?_
    refine ws_set <| ex_ix <| ex_var ⟨rfl, rfl⟩ <| ex_neg <| ex_int <| ⟨_, rfl, r_ixC [] Dat.str (xs := s3) (ob h) fun z7 h => ?_⟩
    refine ws_expr <| r_app [] Dat.str (xs := s3) <| ex_var ⟨rfl, rfl⟩ ⟨rfl, rfl, ea_cons <| ex_bin <| ex_bin <| ex_sl <| ex_var ⟨rfl, rfl⟩ <| ep_none <| ep_some <| ex_var ⟨rfl, rfl⟩ <| ⟨_, rfl, r_slS (ob h) fun z9 h => ex_var ⟨rfl, rfl⟩ <| r_cat (ob h) fun z10 h => ex_sl <| ex_var ⟨rfl, rfl⟩ <| ep_some <| ex_bin <| ex_var ⟨rfl, rfl⟩ <| ex_callB R.n_len PyProof.Rows.Boot.«len» <| ea_cons <| ex_var ⟨rfl, rfl⟩ <| ea_nil <| r_lenS (ob h) fun z11 h => o_add <| ⟨_, rfl, ep_none <| r_slS (ob h) fun z12 h => r_cat (ob h) fun z13 h => ea_nil <| b_app [] Dat.str (xs := s3) (x := z13) (ob h) fun z8 h => ?_⟩⟩⟩
    exact ws_nil ⟨z8, ⟨_, _, _, rfl, rfl⟩, h⟩
  case g17 =>
    rintro s3 _ _ ⟨d3, d4, d5, rfl, rfl⟩ h
    exact ws_ret <| ex_frz <| ex_var ⟨rfl, rfl⟩ ⟨_, _, _, rfl, (List.perm_middle (l₁ := [])), (dN [] h)⟩

def S_law_blocks (R : Prg K mg) : Spc := fun ds M P E => ∃ (a_content : Str) (a_size : Int), ds = [(.str a_content), (.int a_size)] ∧ (m_law_blocks a_content a_size).Out (fun r => P ((lstD Dat.str) r) M) (fun x => E (exE R x) M)
theorem ok_law_blocks (R : Prg K mg) : FnD PR w K mg base 1 R.f_law_blocks R.d_law_blocks P_law_blocks (S_law_blocks R) := by
  refine fn_d false R.F_law_blocks sc_law_blocks (fun h => nomatch h) (fun ds M P E ⟨_, _, e, _⟩ => by rw [e]; rfl) fun cdv A outer s H E hr ds M Pd PE h => ?_
  obtain ⟨a_content, a_size, rfl, h⟩ := h
  have hu := hr.units
  refine WS.ends ?_
  exact ws_ret <| ex_lcT [("at", 2)] <| ei_rng3B R.n_range <| ex_int <| ex_callB R.n_len PyProof.Rows.Boot.«len» <| ea_cons <| ex_var ⟨rfl, rfl⟩ <| ea_nil <| r_lenS (ob h) fun z1 h => ex_var ⟨rfl, rfl⟩ <| ⟨(0 : Int), z1, a_size, rfl, rfl, rfl, (gd (ob h)).1, have h := (gd (ob h)).2; compT Dat.int Dat.str (xs := (rangeC (0 : Int) a_size (Int.toNat ((z1 - (0 : Int) + a_size - 1) / a_size)))) (ob h) trivial (fun x2 _ h s H C cl fp => gc_name  <| fun s H C cl fp => ef_nil ⟨fun _ s H C cl fp => ex_sl <| ex_var ⟨rfl, rfl⟩ <| ep_some <| ex_var ⟨rfl, rfl⟩ <| ⟨_, rfl, ep_some <| ex_bin <| ex_var ⟨rfl, rfl⟩ <| ex_var ⟨rfl, rfl⟩ <| o_add <| ⟨_, rfl, r_slS (ob h) fun z3 h => ⟨rfl, z3, rfl, h⟩⟩⟩, fun z => nomatch z⟩) (fun l4 h => (dN [] h))⟩

def S_law_walks (R : Prg K mg) : Spc := fun ds M P E => ∃ (a_many : Int) (a_blocks : Int), ds = [(.int a_many), (.int a_blocks)] ∧ (m_law_walks a_many a_blocks).Out (fun r => P ((lstD (lstD Dat.int)) r) M) (fun x => E (exE R x) M)
theorem ok_law_walks (R : Prg K mg) : FnD PR w K mg base 1 R.f_law_walks R.d_law_walks P_law_walks (S_law_walks R) := by
  refine fn_d false R.F_law_walks sc_law_walks (fun h => nomatch h) (fun ds M P E ⟨_, _, e, _⟩ => by rw [e]; rfl) fun cdv A outer s H E hr ds M Pd PE h => ?_
  obtain ⟨a_many, a_blocks, rfl, h⟩ := h
  have hu := hr.units
  refine WS.ends ?_
  refine ws_set <| ex_lst <| ea_cons <| ex_lst <| ea_nil ⟨ln, ea_nil ⟨ln, ?_⟩⟩
  refine ws_forT <| ei_rng1 R.n_range <| ex_var ⟨rfl, rfl⟩ <| ⟨a_blocks, rfl, (gd (ob h)).1, have h := (gd (ob h)).2; foldT Dat.int (xs := (rangeL 0 (Int.toNat a_blocks))) (fun (s1 : (List (List Int))) τ M' => ∃ d3 d4 d5 d6, [some (.int a_many), some (.int a_blocks), some ((lstD (lstD Dat.int)) s1), d3, d4, d5, d6] = τ ∧ M = M') (ob h) ⟨_, _, _, _, rfl, rfl⟩ (fun _ _ _ _ => trivial) ?g20 ?g21⟩
  case g20 =>
    rintro x2 s1 _ _ N ⟨d3, d4, d5, d6, rfl, rfl⟩ h
    refine gx_name  <| ?_
    refine ws_set <| ex_lst <| ea_nil ⟨ln, ?_⟩
    refine ws_forT <| ei_list <| ex_var ⟨rfl, rfl⟩ <| ⟨_, rfl, foldT (lstD Dat.int) (xs := s1) (fun (s5 : (List (List Int))) τ M' => ∃ d5 d6, [some (.int a_many), some (.int a_blocks), some ((lstD (lstD Dat.int)) s1), some (.int x2), some ((lstD (lstD Dat.int)) s5), d5, d6] = τ ∧ M = M') (ob h) ⟨_, _, rfl, rfl⟩ (fun _ _ _ _ => trivial) ?g16 ?g17⟩
    case g16 =>
      rintro x6 s5 _ _ N ⟨d5, d6, rfl, rfl⟩ h
      refine gx_name  <| ?_
      refine ws_set <| ex_bin <| ex_var ⟨rfl, rfl⟩ <| ex_lcT [("t", 6)] <| ei_rng2 R.n_range <| ex_ix <| ex_bin <| ex_lst <| ea_cons <| ex_int <| ea_nil ⟨ln, ex_var ⟨rfl, rfl⟩ <| r_catL Dat.int (xs := ([(0 : Int)] : List Int)) (ys := x6) (ob h) fun z9 h => ex_neg <| ex_int <| ⟨_, rfl, r_ix Dat.int (xs := z9) (ob h) fun z10 h => ex_var ⟨rfl, rfl⟩ <| ⟨z10, a_many, rfl, rfl, (gd (ob h)).1, have h := (gd (ob h)).2; compT Dat.int (lstD Dat.int) (xs := (rangeL z10 (Int.toNat (a_many - z10)))) (ob h) trivial (fun x11 _ h s H C cl fp => gc_name  <| fun s H C cl fp => ef_nil ⟨fun _ s H C cl fp => ex_bin <| ex_var ⟨rfl, rfl⟩ <| ex_lst <| ea_cons <| ex_var ⟨rfl, rfl⟩ <| ea_nil ⟨ln, r_catL Dat.int (xs := x6) (ys := ([x11] : List Int)) (ob h) fun z12 h => ⟨rfl, z12, rfl, h⟩⟩, fun z => nomatch z⟩) (fun l13 h => r_catL (lstD Dat.int) (xs := s5) (ys := l13) (ob h) fun z14 h => ?_)⟩⟩⟩
      exact ws_nil ⟨z14, ⟨_, _, rfl, rfl⟩, h⟩
    case g17 =>
      rintro s5 _ _ ⟨d5, d6, rfl, rfl⟩ h
      refine ws_set <| ex_var ⟨rfl, rfl⟩ <| ?_
      exact ws_nil ⟨s5, ⟨_, _, _, _, rfl, rfl⟩, h⟩
  case g21 =>
    rintro s1 _ _ ⟨d3, d4, d5, d6, rfl, rfl⟩ h
    exact ws_ret <| ex_var ⟨rfl, rfl⟩ <| (dN [] h)

def S_law_read (R : Prg K mg) : Spc := fun ds M P E => ∃ (a_states : (List Str)) (a_size : Int) (a_walk : (List Int)) (a_back : Bool), ds = [((lstD Dat.str) a_states), (.int a_size), ((lstD Dat.int) a_walk), (.bl a_back)] ∧ (m_law_read a_states a_size a_walk a_back).Out (fun r => P (.str r) M) (fun x => E (exE R x) M)
theorem ok_law_read (R : Prg K mg) : FnD PR w K mg base 2 R.f_law_read R.d_law_read P_law_read (S_law_read R) := by
  refine fn_d false R.F_law_read sc_law_read (fun h => nomatch h) (fun ds M P E ⟨_, _, _, _, e, _⟩ => by rw [e]; rfl) fun cdv A outer s H E hr ds M Pd PE h => ?_
  obtain ⟨a_states, a_size, a_walk, a_back, rfl, h⟩ := h
  have hu := hr.units
  refine WS.ends ?_
  refine ws_set <| ex_lcT [("state", 6)] <| ei_list <| ex_var ⟨rfl, rfl⟩ <| ⟨_, rfl, compT Dat.str (lstD Dat.str) (xs := a_states) (ob h) trivial (fun x1 _ h s H C cl fp => gc_name  <| fun s H C cl fp => ef_nil ⟨fun _ s H C cl fp => ex_callF (ok_law_blocks R) (hr.mono (by decide)) R.m_law_blocks R.F_law_blocks R.b_law_blocks <| ea_cons <| ex_var ⟨rfl, rfl⟩ <| ea_cons <| ex_var ⟨rfl, rfl⟩ <| ea_nil <| ⟨x1, a_size, rfl, outU (ob h) (fun z2 h => ⟨rfl, z2, rfl, h⟩) (fun _ h => h)⟩, fun z => nomatch z⟩) (fun l3 h => ?_)⟩
  refine ws_set <| ex_var ⟨rfl, rfl⟩ <| ?_
  refine ws_ifQ (fun Q τ M' => ∃ s4 : (List Int), ∃ d6 d7, [some ((lstD Dat.str) a_states), some (.int a_size), some ((lstD Dat.int) a_walk), some (.bl a_back), some ((lstD (lstD Dat.str)) l3), some ((lstD Dat.int) s4), d6, d7] = τ ∧ M = M' ∧ Q s4) (ob h) (fun _ h => et_val <| ex_var ⟨rfl, rfl⟩ <| ⟨_, rfl, cif h (fun h => ?g6) (fun h => ?g7)⟩) ?k14
  case g6 =>
    refine ws_set <| ex_revLT Dat.int <| ex_var ⟨rfl, rfl⟩ <| ⟨a_walk, (.inl rfl), ?_⟩
    exact ws_nil ⟨a_walk.reverse, _, _, rfl, rfl, h⟩
  case g7 =>
    exact ws_nil ⟨a_walk, _, _, rfl, rfl, h⟩
  case k14 =>
    rintro _ _ ⟨s4, d6, d7, rfl, rfl, h⟩
    exact ws_ret <| ex_join <| ex_str <| ⟨.str, ea_cons <| ex_lcT [("spot", 7)] <| ei_rng1 R.n_range <| ex_callB R.n_len PyProof.Rows.Boot.«len» <| ea_cons <| ex_var ⟨rfl, rfl⟩ <| ea_nil <| c_lenT Dat.int (xs := s4) <| ⟨(s4.length : Int), rfl, (gd (ob h)).1, have h := (gd (ob h)).2; compT Dat.int Dat.str (xs := (rangeL 0 (Int.toNat (s4.length : Int)))) (ob h) trivial (fun x8 _ h s H C cl fp => gc_name  <| fun s H C cl fp => ef_nil ⟨fun _ s H C cl fp => ex_ix <| ex_ix <| ex_var ⟨rfl, rfl⟩ <| ex_ix <| ex_var ⟨rfl, rfl⟩ <| ex_var ⟨rfl, rfl⟩ <| r_ix Dat.int (xs := s4) (ob h) fun z9 h => r_ix (lstD Dat.str) (xs := l3) (ob h) fun z10 h => ex_var ⟨rfl, rfl⟩ <| r_ix Dat.str (xs := z10) (ob h) fun z11 h => ⟨rfl, z11, rfl, h⟩, fun z => nomatch z⟩) (fun l12 h => ea_nil <| r_joinS (xs := l12) (ob h) fun z13 h => (dN [] h))⟩⟩

def S_check_history (R : Prg K mg) : Spc := fun ds M P E => ∃ (a_value : (Str × List (Int × Str))), ds = [((historyD R) a_value)] ∧ (m_check_history a_value).Out (fun r => P .non M) (fun x => E (exE R x) M)
theorem ok_check_history (R : Prg K mg) : FnD PR w K mg base 1 R.f_check_history R.d_check_history P_check_history (S_check_history R) := by
  refine fn_d false R.F_check_history sc_check_history (fun h => nomatch h) (fun ds M P E ⟨_, e, _⟩ => by rw [e]; rfl) fun cdv A outer s H E hr ds M Pd PE h => ?_
  obtain ⟨a_value, rfl, h⟩ := h
  have hu := hr.units
  refine WS.ends ?_
  refine ws_if <| et_not <| et_val <| ex_callB R.n_isinstance PyProof.Rows.Boot.«isinstance» <| ea_cons <| ex_var ⟨rfl, rfl⟩ <| ea_cons <| ex_gref R.mc_History <| ea_nil <| c_isi (k := true) (.own _) (.obj R.L_History) R.s_History_History <| ⟨_, rfl, (fun z => absurd z (by decide)), fun _ => ?_⟩
  refine ws_nil ?_
  exact ws_nil (dN [] h)

def S_check_least (R : Prg K mg) : Spc := fun ds M P E => ∃ (a_value : Int) (a_least : Int), ds = [(.int a_value), (.int a_least)] ∧ (m_check_least a_value a_least).Out (fun r => P .non M) (fun x => E (exE R x) M)
theorem ok_check_least (R : Prg K mg) : FnD PR w K mg base 2 R.f_check_least R.d_check_least P_check_least (S_check_least R) := by
  refine fn_d false R.F_check_least sc_check_least (fun h => nomatch h) (fun ds M P E ⟨_, _, e, _⟩ => by rw [e]; rfl) fun cdv A outer s H E hr ds M Pd PE h => ?_
  obtain ⟨a_value, a_least, rfl, h⟩ := h
  have hu := hr.units
  refine WS.ends ?_
  refine ws_if <| et_w <| ew_or <| et_not <| et_val <| ex_callF (ok_is_whole R) (hr.mono (by decide)) R.m_is_whole R.F_is_whole R.b_is_whole <| ea_cons <| ex_var ⟨rfl, rfl⟩ <| ea_nil <| ⟨a_value, rfl, outU (ob h) (fun z1 h => ⟨_, rfl, cifN h (fun h => ew_or1 <| et_cmp <| ex_var ⟨rfl, rfl⟩ <| ex_var ⟨rfl, rfl⟩ <| o_lt <| ⟨_, rfl, cif h (fun h => ?g3) (fun h => ?g4)⟩) (fun h => ⟨fun _ => ?g2, fun z => nomatch z⟩)⟩) (fun _ h => dX [] h)⟩
  case g2 =>
    exact ws_raise rfl R.S_InvalidNumber R.mc_InvalidNumber R.n_super hr <| ex_asA <| ex_var ⟨rfl, rfl⟩ <| ⟨anyD (clR R) (Any.int a_value), (by first | rfl | (simp only [anyD, anyDL, anyDL_map, List.map_map]; done) | (simp only [anyD, anyDL, anyDL_map, List.map_map]; rfl) | (simp only [anyD, anyDL, anyDL_map, List.map_map, stepA_comp, stepA_D]; rfl) | (simp only [anyD, anyDL, anyDL_map, List.map_map, stepA_comp, stepA_D]; done)), (dX [] h)⟩
  case g3 =>
    exact ws_raise rfl R.S_InvalidNumber R.mc_InvalidNumber R.n_super hr <| ex_asA <| ex_var ⟨rfl, rfl⟩ <| ⟨anyD (clR R) (Any.int a_value), (by first | rfl | (simp only [anyD, anyDL, anyDL_map, List.map_map]; done) | (simp only [anyD, anyDL, anyDL_map, List.map_map]; rfl) | (simp only [anyD, anyDL, anyDL_map, List.map_map, stepA_comp, stepA_D]; rfl) | (simp only [anyD, anyDL, anyDL_map, List.map_map, stepA_comp, stepA_D]; done)), (dX [] h)⟩
  case g4 =>
    refine ws_nil ?_
    exact ws_nil (dN [] h)

def S_check_asked (R : Prg K mg) : Spc := fun ds M P E => ∃ (a_history : (Str × List (Int × Str))) (a_size : Int), ds = [((historyD R) a_history), (.int a_size)] ∧ (m_check_asked a_history a_size).Out (fun r => P .non M) (fun x => E (exE R x) M)
theorem ok_check_asked (R : Prg K mg) : FnD PR w K mg base 3 R.f_check_asked R.d_check_asked P_check_asked (S_check_asked R) := by
  refine fn_d false R.F_check_asked sc_check_asked (fun h => nomatch h) (fun ds M P E ⟨_, _, e, _⟩ => by rw [e]; rfl) fun cdv A outer s H E hr ds M Pd PE h => ?_
  obtain ⟨a_history, a_size, rfl, h⟩ := h
  have hu := hr.units
  refine WS.ends ?_
  refine ws_expr <| ex_callF (ok_check_history R) (hr.mono (by decide)) R.m_check_history R.F_check_history R.b_check_history <| ea_cons <| ex_var ⟨rfl, rfl⟩ <| ea_nil <| ⟨a_history, rfl, outU (ob h) (fun z1 h => ?_) (fun _ h => dX [] h)⟩
  refine ws_expr <| ex_callF (ok_check_least R) (hr.mono (by decide)) R.m_check_least R.F_check_least R.b_check_least <| ea_cons <| ex_var ⟨rfl, rfl⟩ <| ea_cons <| ex_int <| ea_nil <| ⟨a_size, (1 : Int), rfl, outU (ob h) (fun z2 h => ?_) (fun _ h => dX [] h)⟩
  exact ws_nil (dN [] h)

def S_blocks_of (R : Prg K mg) : Spc := fun ds M P E => ∃ (a_cells : Str) (a_size : Int), ds = [(.str a_cells), (.int a_size)] ∧ (m_blocks_of a_cells a_size).Out (fun r => P ((lstD Dat.str) r) M) (fun x => E (exE R x) M)
theorem ok_blocks_of (R : Prg K mg) : FnD PR w K mg base 1 R.f_blocks_of R.d_blocks_of P_blocks_of (S_blocks_of R) := by
  refine fn_d false R.F_blocks_of sc_blocks_of (fun h => nomatch h) (fun ds M P E ⟨_, _, e, _⟩ => by rw [e]; rfl) fun cdv A outer s H E hr ds M Pd PE h => ?_
  obtain ⟨a_cells, a_size, rfl, h⟩ := h
  have hu := hr.units
  refine WS.ends ?_
  exact ws_ret <| ex_lcT [("at", 2)] <| ei_rng3B R.n_range <| ex_int <| ex_callB R.n_len PyProof.Rows.Boot.«len» <| ea_cons <| ex_var ⟨rfl, rfl⟩ <| ea_nil <| r_lenS (ob h) fun z1 h => ex_var ⟨rfl, rfl⟩ <| ⟨(0 : Int), z1, a_size, rfl, rfl, rfl, (gd (ob h)).1, have h := (gd (ob h)).2; compT Dat.int Dat.str (xs := (rangeC (0 : Int) a_size (Int.toNat ((z1 - (0 : Int) + a_size - 1) / a_size)))) (ob h) trivial (fun x2 _ h s H C cl fp => gc_name  <| fun s H C cl fp => ef_nil ⟨fun _ s H C cl fp => ex_sl <| ex_var ⟨rfl, rfl⟩ <| ep_some <| ex_var ⟨rfl, rfl⟩ <| ⟨_, rfl, ep_some <| ex_bin <| ex_var ⟨rfl, rfl⟩ <| ex_var ⟨rfl, rfl⟩ <| o_add <| ⟨_, rfl, r_slS (ob h) fun z3 h => ⟨rfl, z3, rfl, h⟩⟩⟩, fun z => nomatch z⟩) (fun l4 h => (dN [] h))⟩

def S_columns_of (R : Prg K mg) : Spc := fun ds M P E => ∃ (a_states : (List Str)) (a_size : Int), ds = [((lstD Dat.str) a_states), (.int a_size)] ∧ (m_columns_of a_states a_size).Out (fun r => P ((lstD (lstD Dat.str)) r) M) (fun x => E (exE R x) M)
theorem ok_columns_of (R : Prg K mg) : FnD PR w K mg base 2 R.f_columns_of R.d_columns_of P_columns_of (S_columns_of R) := by
  refine fn_d false R.F_columns_of sc_columns_of (fun h => nomatch h) (fun ds M P E ⟨_, _, e, _⟩ => by rw [e]; rfl) fun cdv A outer s H E hr ds M Pd PE h => ?_
  obtain ⟨a_states, a_size, rfl, h⟩ := h
  have hu := hr.units
  refine WS.ends ?_
  refine ws_set <| ex_lcT [("state", 3)] <| ei_list <| ex_var ⟨rfl, rfl⟩ <| ⟨_, rfl, compT Dat.str (lstD Dat.str) (xs := a_states) (ob h) trivial (fun x1 _ h s H C cl fp => gc_name  <| fun s H C cl fp => ef_nil ⟨fun _ s H C cl fp => ex_callF (ok_blocks_of R) (hr.mono (by decide)) R.m_blocks_of R.F_blocks_of R.b_blocks_of <| ea_cons <| ex_var ⟨rfl, rfl⟩ <| ea_cons <| ex_var ⟨rfl, rfl⟩ <| ea_nil <| ⟨x1, a_size, rfl, outU (ob h) (fun z2 h => ⟨rfl, z2, rfl, h⟩) (fun _ h => h)⟩, fun z => nomatch z⟩) (fun l3 h => ?_)⟩
  exact ws_ret <| ex_lcT [("at", 4)] <| ei_rng1 R.n_range <| ex_callB R.n_len PyProof.Rows.Boot.«len» <| ea_cons <| ex_ix <| ex_var ⟨rfl, rfl⟩ <| ex_int <| r_ix (lstD Dat.str) (xs := l3) (ob h) fun z4 h => ea_nil <| c_lenT Dat.str (xs := z4) <| ⟨(z4.length : Int), rfl, (gd (ob h)).1, have h := (gd (ob h)).2; compT Dat.int (lstD Dat.str) (xs := (rangeL 0 (Int.toNat (z4.length : Int)))) (ob h) trivial (fun x5 _ h s H C cl fp => gc_name  <| fun s H C cl fp => ef_nil ⟨fun _ s H C cl fp => ex_lcT [("row", 5)] <| ei_list <| ex_var ⟨rfl, rfl⟩ <| ⟨_, rfl, compT (lstD Dat.str) Dat.str (xs := l3) (ob h) trivial (fun x6 _ h s H C cl fp => gc_name  <| fun s H C cl fp => ef_nil ⟨fun _ s H C cl fp => ex_ix <| ex_var ⟨rfl, rfl⟩ <| ex_var ⟨rfl, rfl⟩ <| r_ix Dat.str (xs := x6) (ob h) fun z7 h => ⟨rfl, z7, rfl, h⟩, fun z => nomatch z⟩) (fun l8 h => ⟨rfl, l8, rfl, h⟩)⟩, fun z => nomatch z⟩) (fun l9 h => (dN [] h))⟩

def S_columns_along (R : Prg K mg) : Spc := fun ds M P E => ∃ (a_states : (List Str)) (a_size : Int) (a_down : Bool), ds = [((lstD Dat.str) a_states), (.int a_size), (.bl a_down)] ∧ (m_columns_along a_states a_size a_down).Out (fun r => P ((lstD (lstD Dat.str)) r) M) (fun x => E (exE R x) M)
theorem ok_columns_along (R : Prg K mg) : FnD PR w K mg base 3 R.f_columns_along R.d_columns_along P_columns_along (S_columns_along R) := by
  refine fn_d false R.F_columns_along sc_columns_along (fun h => nomatch h) (fun ds M P E ⟨_, _, _, e, _⟩ => by rw [e]; rfl) fun cdv A outer s H E hr ds M Pd PE h => ?_
  obtain ⟨a_states, a_size, a_down, rfl, h⟩ := h
  have hu := hr.units
  refine WS.ends ?_
  exact ws_ret <| ex_callF (ok_columns_of R) (hr.mono (by decide)) R.m_columns_of R.F_columns_of R.b_columns_of <| ea_cons <| exJQ (lstD Dat.str) (ob h) (fun _ h => ex_if <| et_val <| ex_var ⟨rfl, rfl⟩ <| ⟨_, rfl, cif h (fun h => ex_revLT Dat.str <| ex_var ⟨rfl, rfl⟩ <| ⟨a_states, (.inl rfl), ⟨rfl, a_states.reverse, rfl, h⟩⟩) (fun h => ex_var ⟨rfl, rfl⟩ <| ⟨rfl, a_states, rfl, h⟩)⟩) fun z1 h => ea_cons <| ex_var ⟨rfl, rfl⟩ <| ea_nil <| ⟨z1, a_size, rfl, outU (ob h) (fun z2 h => (dN [] h)) (fun _ h => dX [] h)⟩

def S_File_content (R : Prg K mg) : Spc := fun ds M P E => ∃ (a_self : Str), ds = [((fileD R) a_self)] ∧ (m_File_content a_self).Out (fun r => P (.str r) M) (fun x => E (exE R x) M)
theorem ok_File_content (R : Prg K mg) : FnD PR w K mg base 1 R.f_File_content R.d_File_content P_File_content (S_File_content R) := by
  refine fn_d true R.F_File_content sc_File_content (fun _ => ⟨"self", by decide, by rfl⟩) (fun ds M P E ⟨_, e, _⟩ => by rw [e]; rfl) fun cdv A outer s H E hr ds M Pd PE h => ?_
  obtain ⟨a_self, rfl, h⟩ := h
  have hu := hr.units
  refine WS.ends ?_
  exact ws_ret <| ex_repl <| ex_fld <| ex_var ⟨rfl, rfl⟩ <| ⟨_, ⟨_, R.L_File.cl, R.A_File_row, .inl ⟨_, _, rfl, rfl, rfl⟩⟩, ⟨_, _, _, rfl, ob h, fun z1 h => (dN [] h)⟩⟩

def S_written (R : Prg K mg) : Spc := fun ds M P E => ∃ (a_row : Str) (a_begin : Int) (a_text : Str), ds = [(.str a_row), (.int a_begin), (.str a_text)] ∧ (m_written a_row a_begin a_text).Out (fun r => P (.str r) M) (fun x => E (exE R x) M)
theorem ok_written (R : Prg K mg) : FnD PR w K mg base 1 R.f_written R.d_written P_written (S_written R) := by
  refine fn_d false R.F_written sc_written (fun h => nomatch h) (fun ds M P E ⟨_, _, _, e, _⟩ => by rw [e]; rfl) fun cdv A outer s H E hr ds M Pd PE h => ?_
  obtain ⟨a_row, a_begin, a_text, rfl, h⟩ := h
  have hu := hr.units
  refine WS.ends ?_
  exact ws_ret <| ex_bin <| ex_bin <| ex_sl <| ex_var ⟨rfl, rfl⟩ <| ep_none <| ep_some <| ex_var ⟨rfl, rfl⟩ <| ⟨_, rfl, r_slS (ob h) fun z1 h => ex_var ⟨rfl, rfl⟩ <| r_cat (ob h) fun z2 h => ex_sl <| ex_var ⟨rfl, rfl⟩ <| ep_some <| ex_bin <| ex_var ⟨rfl, rfl⟩ <| ex_callB R.n_len PyProof.Rows.Boot.«len» <| ea_cons <| ex_var ⟨rfl, rfl⟩ <| ea_nil <| r_lenS (ob h) fun z3 h => o_add <| ⟨_, rfl, ep_none <| r_slS (ob h) fun z4 h => r_cat (ob h) fun z5 h => (dN [] h)⟩⟩

def S_History_states (R : Prg K mg) : Spc := fun ds M P E => ∃ (a_self : (Str × List (Int × Str))), ds = [((historyD R) a_self)] ∧ (m_History_states a_self).Out (fun r => P ((lstD Dat.str) r) M) (fun x => E (exE R x) M)
theorem ok_History_states (R : Prg K mg) : FnD PR w K mg base 3 R.f_History_states R.d_History_states P_History_states (S_History_states R) := by
  refine fn_d false R.F_History_states sc_History_states (fun h => nomatch h) (fun ds M P E ⟨_, e, _⟩ => by rw [e]; rfl) fun cdv A outer s H E hr ds M Pd PE h => ?_
  obtain ⟨a_self, rfl, h⟩ := h
  have hu := hr.units
  refine WS.ends ?_
  refine ws_set <| ex_lstC <| ea_cons <| ex_prop R.L_File.cl R.V_File_content (ok_File_content R) (hr.mono (by decide)) R.b_File_content <| ex_fld <| ex_var ⟨rfl, rfl⟩ <| ⟨_, ⟨_, R.L_History.cl, R.A_History_start, .inl ⟨_, _, rfl, rfl, rfl⟩⟩, ⟨⟨"", .inl ⟨_, _, rfl, by decide⟩⟩, ap_all ⟨a_self.1, rfl, outU (ne_out (E' := fun _ => False) (ob h)) (fun z2 h => ea_nil ⟨ln, fun q1 _ => ?_⟩) (fun _ h => h.elim)⟩⟩⟩
  refine ws_forT <| ei_list <| ex_fld <| ex_var ⟨rfl, rfl⟩ <| ⟨_, ⟨_, R.L_History.cl, R.A_History_rows, .inl ⟨_, _, rfl, rfl, rfl⟩⟩, ⟨_, rfl, foldT (pairD Dat.int Dat.str) (xs := a_self.2) (fun (s3 : (List Str)) τ M' => ∃ d2 d3, [some ((historyD R) a_self), some (.raw (.ref q1)), d2, d3] = τ ∧ (q1, .lst (s3.map Dat.str)) :: M = M') (ob h) ⟨_, _, rfl, rfl⟩ (fun _ _ _ _ => trivial) ?g11 ?g12⟩⟩
  case g11 =>
    rintro x4 s3 _ _ N ⟨d2, d3, rfl, rfl⟩ h
    refine gx_tup <| gxs_cons <| gx_name  <| gxs_cons <| gx_name  <| gxs_nil <| ?_
    refine ws_expr <| r_app [] Dat.str (xs := s3) <| ex_var ⟨rfl, rfl⟩ ⟨rfl, rfl, ea_cons <| ex_callF (ok_written R) (hr.mono (by decide)) R.m_written R.F_written R.b_written <| ea_cons <| ex_ix <| ex_var ⟨rfl, rfl⟩ <| ex_neg <| ex_int <| ⟨_, rfl, r_ixC [] Dat.str (xs := s3) (ob h) fun z8 h => ea_cons <| ex_var ⟨rfl, rfl⟩ <| ea_cons <| ex_var ⟨rfl, rfl⟩ <| ea_nil <| ⟨z8, x4.1, x4.2, rfl, outU (ob h) (fun z9 h => ea_nil <| b_app [] Dat.str (xs := s3) (x := z9) (ob h) fun z7 h => ?_) (fun _ h => dX [_] h)⟩⟩⟩
    exact ws_nil ⟨z7, ⟨_, _, rfl, rfl⟩, h⟩
  case g12 =>
    rintro s3 _ _ ⟨d2, d3, rfl, rfl⟩ h
    exact ws_ret <| ex_frz <| ex_var ⟨rfl, rfl⟩ ⟨_, _, _, rfl, (List.perm_middle (l₁ := [])), (dN [] h)⟩

def S_readings (R : Prg K mg) : Spc := fun ds M P E => ∃ (a_column : (List Str)) (a_t : Int), ds = [((lstD Dat.str) a_column), (.int a_t)] ∧ (m_readings a_column a_t).Out (fun r => P ((lstD (pairD Dat.str Dat.int)) r) M) (fun x => E (exE R x) M)
theorem ok_readings (R : Prg K mg) : FnD PR w K mg base 1 R.f_readings R.d_readings P_readings (S_readings R) := by
  refine fn_d false R.F_readings sc_readings (fun h => nomatch h) (fun ds M P E ⟨_, _, e, _⟩ => by rw [e]; rfl) fun cdv A outer s H E hr ds M Pd PE h => ?_
  obtain ⟨a_column, a_t, rfl, h⟩ := h
  have hu := hr.units
  refine WS.ends ?_
  refine ws_set <| ex_dicC fun q1 => ?_
  refine ws_forT <| ei_rng2 R.n_range <| ex_var ⟨rfl, rfl⟩ <| ex_callB R.n_len PyProof.Rows.Boot.«len» <| ea_cons <| ex_var ⟨rfl, rfl⟩ <| ea_nil <| c_lenT Dat.str (xs := a_column) <| ⟨a_t, (a_column.length : Int), rfl, rfl, (gd (ob h)).1, have h := (gd (ob h)).2; foldT Dat.int (xs := (rangeL a_t (Int.toNat ((a_column.length : Int) - a_t)))) (fun (s2 : (List (Str × Int))) τ M' => ∃ d3 d4, [some ((lstD Dat.str) a_column), some (.int a_t), some (.raw (.ref q1)), d3, d4] = τ ∧ (q1, .dic (dicD Dat.int s2)) :: M = M') (ob h) ⟨_, _, rfl, rfl⟩ (fun _ _ _ _ => trivial) ?g14 ?g15⟩
  case g14 =>
    rintro x3 s2 _ _ N ⟨d3, d4, rfl, rfl⟩ h
    refine gx_name  <| ?_
    refine ws_ifQ (fun Q τ M' => ∃ s6 : (List (Str × Int)), ∃ d4, [some ((lstD Dat.str) a_column), some (.int a_t), some (.raw (.ref q1)), some (.int x3), d4] = τ ∧ (q1, .dic (dicD Dat.int s6)) :: M = M' ∧ Q s6) (ob h) (fun _ h => et_cmp <| ex_ix <| ex_var ⟨rfl, rfl⟩ <| ex_var ⟨rfl, rfl⟩ <| r_ix Dat.str (xs := a_column) (ob h) fun z7 h => ex_var ⟨rfl, rfl⟩ <| o_notInDic Dat.int (ds := s2) hu List.mem_cons_self <| ⟨_, rfl, cif h (fun h => ?g11) (fun h => ?g12)⟩) ?k13
    case g11 =>
      refine ws_dput Dat.int hu <| ex_var ⟨rfl, rfl⟩ <| ex_var ⟨rfl, rfl⟩ <| ex_ix <| ex_var ⟨rfl, rfl⟩ <| ex_var ⟨rfl, rfl⟩ <| r_ix Dat.str (xs := a_column) (ob h) fun z8 h => ⟨_, s2, z8, x3, [], _, _, _, rfl, rfl, rfl, rfl, (ob h), fun z9 h => ?_⟩
      exact ws_nil ⟨z9, _, rfl, rfl, h⟩
    case g12 =>
      exact ws_nil ⟨s2, _, rfl, rfl, h⟩
    case k13 =>
      rintro _ _ ⟨s6, d4, rfl, rfl, h⟩
      exact ws_nil ⟨s6, ⟨_, _, rfl, rfl⟩, h⟩
  case g15 =>
    rintro s2 _ _ ⟨d3, d4, rfl, rfl⟩ h
    exact ws_ret <| ex_callB R.n_sorted PyProof.Rows.Boot.«sorted» <| ea_cons <| ex_lcT [("text", 4), ("at", 3)] <| ei_items Dat.int <| ex_var ⟨rfl, rfl⟩ ⟨_, s2, [], _, rfl, rfl, compT (pairD Dat.str Dat.int) (pairD Dat.str Dat.int) (xs := s2) (ob h) trivial (fun x16 _ h s H C cl fp => gc_tup <| gcs_cons <| gc_name  <| gcs_cons <| gc_name  <| gcs_nil <| fun s H C cl fp => ef_nil ⟨fun _ s H C cl fp => ex_tup <| ea_cons <| ex_var ⟨rfl, rfl⟩ <| ea_cons <| ex_var ⟨rfl, rfl⟩ <| ea_nil ⟨ln, ⟨rfl, (x16.1, x16.2), rfl, h⟩⟩, fun z => nomatch z⟩) (fun l17 h => ea_nil <| c_sortD (py2 pyS pyI) (pys2 pysS pysI) (xs := l17) (.inl rfl) hu (ob h) fun z18 h => (dN [] h))⟩

def S_counts_of (R : Prg K mg) : Spc := fun ds M P E => ∃ (a_columns : (List (List Str))) (a_places : Int), ds = [((lstD (lstD Dat.str)) a_columns), (.int a_places)] ∧ (m_counts_of a_columns a_places).Out (fun r => P ((lstD (lstD Dat.int)) r) M) (fun x => E (exE R x) M)
theorem ok_counts_of (R : Prg K mg) : FnD PR w K mg base 2 R.f_counts_of R.d_counts_of P_counts_of (S_counts_of R) := by
  refine fn_d false R.F_counts_of sc_counts_of (fun h => nomatch h) (fun ds M P E ⟨_, _, e, _⟩ => by rw [e]; rfl) fun cdv A outer s H E hr ds M Pd PE h => ?_
  obtain ⟨a_columns, a_places, rfl, h⟩ := h
  have hu := hr.units
  refine WS.ends ?_
  refine ws_set <| ex_lstC <| ea_cons <| ex_lcT [("t", 4)] <| ei_rng1 R.n_range <| ex_var ⟨rfl, rfl⟩ <| ⟨a_places, rfl, (gd (ob h)).1, have h := (gd (ob h)).2; compT Dat.int Dat.int (xs := (rangeL 0 (Int.toNat a_places))) (ob h) trivial (fun x2 _ h s H C cl fp => gc_name  <| fun s H C cl fp => ef_nil ⟨fun _ s H C cl fp => ex_int <| ⟨rfl, (1 : Int), rfl, h⟩, fun z => nomatch z⟩) (fun l3 h => ea_nil ⟨ln, fun q1 _ => ?_⟩)⟩
  refine ws_forT <| ei_list <| ex_revLT (lstD Dat.str) <| ex_var ⟨rfl, rfl⟩ <| ⟨a_columns, (.inl rfl), ⟨_, rfl, foldT (lstD Dat.str) (xs := a_columns.reverse) (fun (s4 : (List (List Int))) τ M' => ∃ d3 d4 d5 d6, [some ((lstD (lstD Dat.str)) a_columns), some (.int a_places), some (.raw (.ref q1)), d3, d4, d5, d6] = τ ∧ (q1, .lst (s4.map (lstD Dat.int))) :: M = M') (ob h) ⟨_, _, _, _, rfl, rfl⟩ (fun _ _ _ _ => trivial) ?g17 ?g18⟩⟩
  case g17 =>
    rintro x5 s4 _ _ N ⟨d3, d4, d5, d6, rfl, rfl⟩ h
    refine gx_name  <| ?_
    refine ws_expr <| r_app [] (lstD Dat.int) (xs := s4) <| ex_var ⟨rfl, rfl⟩ ⟨rfl, rfl, ea_cons <| ex_lcT [("t", 4)] <| ei_rng1 R.n_range <| ex_var ⟨rfl, rfl⟩ <| ⟨a_places, rfl, (gd (ob h)).1, have h := (gd (ob h)).2; compT Dat.int Dat.int (xs := (rangeL 0 (Int.toNat a_places))) (ob h) trivial (fun x9 _ h s H C cl fp => gc_name  <| fun s H C cl fp => ef_nil ⟨fun _ s H C cl fp => ex_callB R.n_sum PyProof.Rows.Boot.«sum» <| ea_cons <| ex_lcT [("text", 5), ("at", 6)] <| ei_list <| ex_callF (ok_readings R) (hr.mono (by decide)) R.m_readings R.F_readings R.b_readings <| ea_cons <| ex_var ⟨rfl, rfl⟩ <| ea_cons <| ex_var ⟨rfl, rfl⟩ <| ea_nil <| ⟨x5, x9, rfl, outU (ob h) (fun z10 h => ⟨_, rfl, compT (pairD Dat.str Dat.int) Dat.int (xs := z10) (ob h) trivial (fun x11 _ h s H C cl fp => gc_tup <| gcs_cons <| gc_name  <| gcs_cons <| gc_name  <| gcs_nil <| fun s H C cl fp => ef_nil ⟨fun _ s H C cl fp => ex_ix <| ex_ix <| ex_var ⟨rfl, rfl⟩ <| ex_neg <| ex_int <| ⟨_, rfl, r_ixC [] (lstD Dat.int) (xs := s4) (ob h) fun z12 h => ex_var ⟨rfl, rfl⟩ <| r_ix Dat.int (xs := z12) (ob h) fun z13 h => ⟨rfl, z13, rfl, h⟩⟩, fun z => nomatch z⟩) (fun l14 h => ea_nil <| c_sumT (ns := l14) <| ⟨rfl, (l14.sum), rfl, h⟩)⟩) (fun _ h => h)⟩, fun z => nomatch z⟩) (fun l15 h => ea_nil <| b_app [] (lstD Dat.int) (xs := s4) (x := l15) (ob h) fun z8 h => ?_)⟩⟩
    exact ws_nil ⟨z8, ⟨_, _, _, _, rfl, rfl⟩, h⟩
  case g18 =>
    rintro s4 _ _ ⟨d3, d4, d5, d6, rfl, rfl⟩ h
    refine ws_frz 2 rfl (List.perm_middle (l₁ := [])) ?_
    exact ws_ret <| ex_revLT (lstD Dat.int) <| ex_var ⟨rfl, rfl⟩ <| ⟨s4, (.inl rfl), (dN [] h)⟩

def S_History_len (R : Prg K mg) : Spc := fun ds M P E => ∃ (a_self : (Str × List (Int × Str))), ds = [((historyD R) a_self)] ∧ (m_History_len a_self).Out (fun r => P (.int r) M) (fun x => E (exE R x) M)
theorem ok_History_len (R : Prg K mg) : FnD PR w K mg base 1 R.f_History_len R.d_History_len P_History_len (S_History_len R) := by
  refine fn_d false R.F_History_len sc_History_len (fun h => nomatch h) (fun ds M P E ⟨_, e, _⟩ => by rw [e]; rfl) fun cdv A outer s H E hr ds M Pd PE h => ?_
  obtain ⟨a_self, rfl, h⟩ := h
  have hu := hr.units
  refine WS.ends ?_
  exact ws_ret <| ex_callB R.n_len PyProof.Rows.Boot.«len» <| ea_cons <| ex_fld <| ex_var ⟨rfl, rfl⟩ <| ⟨_, ⟨_, R.L_History.cl, R.A_History_rows, .inl ⟨_, _, rfl, rfl, rfl⟩⟩, ea_nil <| c_lenT (pairD Dat.int Dat.str) (xs := a_self.2) <| (dN [] h)⟩

def S_copy_count (R : Prg K mg) : Spc := fun ds M P E => ∃ (a_history : (Str × List (Int × Str))) (a_size : Int) (a_down : Bool), ds = [((historyD R) a_history), (.int a_size), (.bl a_down)] ∧ (m_copy_count a_history a_size a_down).Out (fun r => P (.int r) M) (fun x => E (exE R x) M)
theorem ok_copy_count (R : Prg K mg) : FnD PR w K mg base 4 R.f_copy_count R.d_copy_count P_copy_count (S_copy_count R) := by
  refine fn_d false R.F_copy_count sc_copy_count (fun h => nomatch h) (fun ds M P E ⟨_, _, _, e, _⟩ => by rw [e]; rfl) fun cdv A outer s H E hr ds M Pd PE h => ?_
  obtain ⟨a_history, a_size, a_down, rfl, h⟩ := h
  have hu := hr.units
  refine WS.ends ?_
  refine ws_expr <| ex_callF (ok_check_asked R) (hr.mono (by decide)) R.m_check_asked R.F_check_asked R.b_check_asked <| ea_cons <| ex_var ⟨rfl, rfl⟩ <| ea_cons <| ex_var ⟨rfl, rfl⟩ <| ea_nil <| ⟨a_history, a_size, rfl, outU (ob h) (fun z1 h => ?_) (fun _ h => dX [] h)⟩
  refine ws_set <| ex_callF (ok_columns_along R) (hr.mono (by decide)) R.m_columns_along R.F_columns_along R.b_columns_along <| ea_cons <| ex_mv0 <| ex_var ⟨rfl, rfl⟩ <| mvD0 ⟨_, ⟨_, _, _, _, R.L_History.cl, R.M_History_states, ok_History_states R, hr.mono (by decide), R.b_History_states⟩, fun M => .inl ⟨_, _, rfl, by decide⟩⟩ ⟨a_history, rfl, outU (ob h) (fun z2 h => ea_cons <| ex_var ⟨rfl, rfl⟩ <| ea_cons <| ex_var ⟨rfl, rfl⟩ <| ea_nil <| ⟨z2, a_size, a_down, rfl, outU (ob h) (fun z3 h => ?_) (fun _ h => dX [] h)⟩) (fun _ h => dX [] h)⟩
  exact ws_ret <| ex_ix <| ex_ix <| ex_callF (ok_counts_of R) (hr.mono (by decide)) R.m_counts_of R.F_counts_of R.b_counts_of <| ea_cons <| ex_var ⟨rfl, rfl⟩ <| ea_cons <| ex_bin <| ex_callB R.n_len PyProof.Rows.Boot.«len» <| ea_cons <| ex_var ⟨rfl, rfl⟩ <| ea_nil <| c_lenOwn (ok_History_len R) (hr.mono (by decide)) R.M_History_len.1 R.M_History_len.2 R.b_History_len (fun _ => .inl ⟨_, _, rfl, by decide⟩) ⟨a_history, rfl, lenO (ob h) fun z4 h => ex_int <| o_add <| ea_nil <| ⟨z3, (z4 + (1 : Int)), rfl, outU (ob h) (fun z5 h => ex_int <| r_ix (lstD Dat.int) (xs := z5) (ob h) fun z6 h => ex_int <| r_ix Dat.int (xs := z6) (ob h) fun z7 h => (dN [] h)) (fun _ h => dX [] h)⟩⟩

def S_check_within (R : Prg K mg) : Spc := fun ds M P E => ∃ (a_value : Int) (a_first : Int) (a_last : Int), ds = [(.int a_value), (.int a_first), (.int a_last)] ∧ (m_check_within a_value a_first a_last).Out (fun r => P .non M) (fun x => E (exE R x) M)
theorem ok_check_within (R : Prg K mg) : FnD PR w K mg base 2 R.f_check_within R.d_check_within P_check_within (S_check_within R) := by
  refine fn_d false R.F_check_within sc_check_within (fun h => nomatch h) (fun ds M P E ⟨_, _, _, e, _⟩ => by rw [e]; rfl) fun cdv A outer s H E hr ds M Pd PE h => ?_
  obtain ⟨a_value, a_first, a_last, rfl, h⟩ := h
  have hu := hr.units
  refine WS.ends ?_
  refine ws_if <| et_w <| ew_or <| et_not <| et_val <| ex_callF (ok_is_whole R) (hr.mono (by decide)) R.m_is_whole R.F_is_whole R.b_is_whole <| ea_cons <| ex_var ⟨rfl, rfl⟩ <| ea_nil <| ⟨a_value, rfl, outU (ob h) (fun z1 h => ⟨_, rfl, cifN h (fun h => ew_or1 <| et_not <| etJQ (ob h) (fun _ h => et_chain <| ex_var ⟨rfl, rfl⟩ <| tch_link <| ex_var ⟨rfl, rfl⟩ <| o_le <| ⟨_, rfl, cif h (fun h => tch_last <| ex_var ⟨rfl, rfl⟩ <| o_le <| ⟨_, rfl, rfl, h⟩) (fun h => ⟨rfl, h⟩)⟩) fun t3 h => cifN h (fun h => ?g5) (fun h => ?g4)) (fun h => ⟨fun _ => ?g2, fun z => nomatch z⟩)⟩) (fun _ h => dX [] h)⟩
  case g2 =>
    exact ws_raise rfl R.S_InvalidNumber R.mc_InvalidNumber R.n_super hr <| ex_asA <| ex_var ⟨rfl, rfl⟩ <| ⟨anyD (clR R) (Any.int a_value), (by first | rfl | (simp only [anyD, anyDL, anyDL_map, List.map_map]; done) | (simp only [anyD, anyDL, anyDL_map, List.map_map]; rfl) | (simp only [anyD, anyDL, anyDL_map, List.map_map, stepA_comp, stepA_D]; rfl) | (simp only [anyD, anyDL, anyDL_map, List.map_map, stepA_comp, stepA_D]; done)), (dX [] h)⟩
  case g4 =>
    exact ws_raise rfl R.S_InvalidNumber R.mc_InvalidNumber R.n_super hr <| ex_asA <| ex_var ⟨rfl, rfl⟩ <| ⟨anyD (clR R) (Any.int a_value), (by first | rfl | (simp only [anyD, anyDL, anyDL_map, List.map_map]; done) | (simp only [anyD, anyDL, anyDL_map, List.map_map]; rfl) | (simp only [anyD, anyDL, anyDL_map, List.map_map, stepA_comp, stepA_D]; rfl) | (simp only [anyD, anyDL, anyDL_map, List.map_map, stepA_comp, stepA_D]; done)), (dX [] h)⟩
  case g5 =>
    refine ws_nil ?_
    exact ws_nil (dN [] h)

def S_content_of (R : Prg K mg) : Spc := fun ds M P E => ∃ (a_columns : (List (List Str))) (a_counts : (List (List Int))) (a_number : Int), ds = [((lstD (lstD Dat.str)) a_columns), ((lstD (lstD Dat.int)) a_counts), (.int a_number)] ∧ (m_content_of a_columns a_counts a_number).Out (fun r => P (.str r) M) (fun x => E (exE R x) M)
theorem ok_content_of (R : Prg K mg) : FnD PR w K mg base 2 R.f_content_of R.d_content_of P_content_of (S_content_of R) := by
  refine fn_d false R.F_content_of sc_content_of (fun h => nomatch h) (fun ds M P E ⟨_, _, _, e, _⟩ => by rw [e]; rfl) fun cdv A outer s H E hr ds M Pd PE h => ?_
  obtain ⟨a_columns, a_counts, a_number, rfl, h⟩ := h
  have hu := hr.units
  refine WS.ends ?_
  refine ws_set <| ex_str <| ?_
  refine ws_set <| ex_int <| ?_
  refine ws_forT <| ei_enumT (lstD Dat.str) R.n_enumerate <| ex_var ⟨rfl, rfl⟩ <| ⟨a_columns, rfl, forT (pairD Dat.int (lstD Dat.str)) (xs := (enumL a_columns)) (fun (s1 : (Int × Str × Int)) τ M' => ∃ d5 d6 d7 d8 d9, [some ((lstD (lstD Dat.str)) a_columns), some ((lstD (lstD Dat.int)) a_counts), some (.int s1.1), some (.str s1.2.1), some (.int s1.2.2), d5, d6, d7, d8, d9] = τ ∧ M = M') (ob h) ⟨_, _, _, _, _, rfl, rfl⟩ (fun _ _ _ _ => trivial) ?g21 ?g22⟩
  case g21 =>
    rintro x2 s1 _ _ N ⟨d5, d6, d7, d8, d9, rfl, rfl⟩ h hrt3
    refine gx_tup <| gxs_cons <| gx_name  <| gxs_cons <| gx_name  <| gxs_nil <| ?_
    refine ws_forT <| ei_list <| ex_callF (ok_readings R) (hr.mono (by decide)) R.m_readings R.F_readings R.b_readings <| ea_cons <| ex_var ⟨rfl, rfl⟩ <| ea_cons <| ex_var ⟨rfl, rfl⟩ <| ea_nil <| ⟨x2.2, s1.2.2, rfl, outU (ob h) (fun z5 h => ⟨_, rfl, forT (pairD Dat.str Dat.int) (xs := z5) (fun (s6 : (Int × Str × Int)) τ M' => ∃ d7 d8 d9, [some ((lstD (lstD Dat.str)) a_columns), some ((lstD (lstD Dat.int)) a_counts), some (.int s6.1), some (.str s6.2.1), some (.int s6.2.2), some (.int x2.1), some ((lstD Dat.str) x2.2), d7, d8, d9] = τ ∧ M = M') (ob h) ⟨_, _, _, rfl, rfl⟩ (fun _ _ _ _ => trivial) ?g19 ?g20⟩) (fun _ h => dX [] h)⟩
    case g19 =>
      rintro x7 s6 _ _ N ⟨d7, d8, d9, rfl, rfl⟩ h hrt8
      refine gx_tup <| gxs_cons <| gx_name  <| gxs_cons <| gx_name  <| gxs_nil <| ?_
      refine ws_set <| ex_ix <| ex_ix <| ex_var ⟨rfl, rfl⟩ <| ex_bin <| ex_var ⟨rfl, rfl⟩ <| ex_int <| o_add <| r_ix (lstD Dat.int) (xs := a_counts) (ob h) fun z10 h => ex_var ⟨rfl, rfl⟩ <| r_ix Dat.int (xs := z10) (ob h) fun z11 h => ?_
      refine ws_if <| et_cmp <| ex_var ⟨rfl, rfl⟩ <| ex_var ⟨rfl, rfl⟩ <| o_lt <| ⟨_, rfl, cif h (fun h => ?g15) (fun h => ?g17)⟩
      case g15 =>
        refine ws_set <| ex_bin <| ex_var ⟨rfl, rfl⟩ <| ex_var ⟨rfl, rfl⟩ <| r_cat (ob h) fun z12 h => ?_
        refine ws_set <| ex_var ⟨rfl, rfl⟩ <| ?_
        exact ws_break ⟨(s6.1, z12, x7.2), ⟨_, _, _, rfl, rfl⟩, h⟩
      case g17 =>
        refine ws_nil ?_
        refine ws_augSub rfl <| ex_var ⟨rfl, rfl⟩ <| ⟨_, rfl, ?_⟩
        exact ws_nil ⟨((s6.1 - z11), s6.2.1, s6.2.2), ⟨_, _, _, rfl, rfl⟩, h⟩
    case g20 =>
      rintro s6 _ _ ⟨d7, d8, d9, rfl, rfl⟩ h
      replace h := finO h
      exact ws_nil ⟨(s6.1, s6.2.1, s6.2.2), ⟨_, _, _, _, _, rfl, rfl⟩, h⟩
  case g22 =>
    rintro s1 _ _ ⟨d5, d6, d7, d8, d9, rfl, rfl⟩ h
    replace h := finO h
    exact ws_ret <| ex_var ⟨rfl, rfl⟩ <| (dN [] h)

def S_copy_at (R : Prg K mg) : Spc := fun ds M P E => ∃ (a_history : (Str × List (Int × Str))) (a_size : Int) (a_number : Int) (a_down : Bool), ds = [((historyD R) a_history), (.int a_size), (.int a_number), (.bl a_down)] ∧ (m_copy_at a_history a_size a_number a_down).Out (fun r => P (.str r) M) (fun x => E (exE R x) M)
theorem ok_copy_at (R : Prg K mg) : FnD PR w K mg base 4 R.f_copy_at R.d_copy_at P_copy_at (S_copy_at R) := by
  refine fn_d false R.F_copy_at sc_copy_at (fun h => nomatch h) (fun ds M P E ⟨_, _, _, _, e, _⟩ => by rw [e]; rfl) fun cdv A outer s H E hr ds M Pd PE h => ?_
  obtain ⟨a_history, a_size, a_number, a_down, rfl, h⟩ := h
  have hu := hr.units
  refine WS.ends ?_
  refine ws_expr <| ex_callF (ok_check_asked R) (hr.mono (by decide)) R.m_check_asked R.F_check_asked R.b_check_asked <| ea_cons <| ex_var ⟨rfl, rfl⟩ <| ea_cons <| ex_var ⟨rfl, rfl⟩ <| ea_nil <| ⟨a_history, a_size, rfl, outU (ob h) (fun z1 h => ?_) (fun _ h => dX [] h)⟩
  refine ws_set <| ex_callF (ok_columns_along R) (hr.mono (by decide)) R.m_columns_along R.F_columns_along R.b_columns_along <| ea_cons <| ex_mv0 <| ex_var ⟨rfl, rfl⟩ <| mvD0 ⟨_, ⟨_, _, _, _, R.L_History.cl, R.M_History_states, ok_History_states R, hr.mono (by decide), R.b_History_states⟩, fun M => .inl ⟨_, _, rfl, by decide⟩⟩ ⟨a_history, rfl, outU (ob h) (fun z2 h => ea_cons <| ex_var ⟨rfl, rfl⟩ <| ea_cons <| ex_var ⟨rfl, rfl⟩ <| ea_nil <| ⟨z2, a_size, a_down, rfl, outU (ob h) (fun z3 h => ?_) (fun _ h => dX [] h)⟩) (fun _ h => dX [] h)⟩
  refine ws_set <| ex_callF (ok_counts_of R) (hr.mono (by decide)) R.m_counts_of R.F_counts_of R.b_counts_of <| ea_cons <| ex_var ⟨rfl, rfl⟩ <| ea_cons <| ex_bin <| ex_callB R.n_len PyProof.Rows.Boot.«len» <| ea_cons <| ex_var ⟨rfl, rfl⟩ <| ea_nil <| c_lenOwn (ok_History_len R) (hr.mono (by decide)) R.M_History_len.1 R.M_History_len.2 R.b_History_len (fun _ => .inl ⟨_, _, rfl, by decide⟩) ⟨a_history, rfl, lenO (ob h) fun z4 h => ex_int <| o_add <| ea_nil <| ⟨z3, (z4 + (1 : Int)), rfl, outU (ob h) (fun z5 h => ?_) (fun _ h => dX [] h)⟩⟩
  refine ws_expr <| ex_callF (ok_check_within R) (hr.mono (by decide)) R.m_check_within R.F_check_within R.b_check_within <| ea_cons <| ex_var ⟨rfl, rfl⟩ <| ea_cons <| ex_int <| ea_cons <| ex_bin <| ex_ix <| ex_ix <| ex_var ⟨rfl, rfl⟩ <| ex_int <| r_ix (lstD Dat.int) (xs := z5) (ob h) fun z6 h => ex_int <| r_ix Dat.int (xs := z6) (ob h) fun z7 h => ex_int <| o_sub <| ea_nil <| ⟨a_number, (0 : Int), (z7 - (1 : Int)), rfl, outU (ob h) (fun z8 h => ?_) (fun _ h => dX [] h)⟩
  exact ws_ret <| ex_callF (ok_content_of R) (hr.mono (by decide)) R.m_content_of R.F_content_of R.b_content_of <| ea_cons <| ex_var ⟨rfl, rfl⟩ <| ea_cons <| ex_var ⟨rfl, rfl⟩ <| ea_cons <| ex_var ⟨rfl, rfl⟩ <| ea_nil <| ⟨z3, z5, a_number, rfl, outU (ob h) (fun z9 h => (dN [] h)) (fun _ h => dX [] h)⟩

def S_History_file (R : Prg K mg) : Spc := fun ds M P E => ∃ (a_self : (Str × List (Int × Str))), ds = [((historyD R) a_self)] ∧ (m_History_file a_self).Out (fun r => P ((fileD R) r) M) (fun x => E (exE R x) M)
theorem ok_History_file (R : Prg K mg) : FnD PR w K mg base 1 R.f_History_file R.d_History_file P_History_file (S_History_file R) := by
  refine fn_d false R.F_History_file sc_History_file (fun h => nomatch h) (fun ds M P E ⟨_, e, _⟩ => by rw [e]; rfl) fun cdv A outer s H E hr ds M Pd PE h => ?_
  obtain ⟨a_self, rfl, h⟩ := h
  have hu := hr.units
  refine WS.ends ?_
  exact ws_ret <| ex_fld <| ex_var ⟨rfl, rfl⟩ <| ⟨_, ⟨_, R.L_History.cl, R.A_History_start, .inl ⟨_, _, rfl, rfl, rfl⟩⟩, (dN [] h)⟩

def S_check_content (R : Prg K mg) : Spc := fun ds M P E => ∃ (a_value : Str) (a_history : (Str × List (Int × Str))), ds = [(.str a_value), ((historyD R) a_history)] ∧ (m_check_content a_value a_history).Out (fun r => P .non M) (fun x => E (exE R x) M)
theorem ok_check_content (R : Prg K mg) : FnD PR w K mg base 3 R.f_check_content R.d_check_content P_check_content (S_check_content R) := by
  refine fn_d false R.F_check_content sc_check_content (fun h => nomatch h) (fun ds M P E ⟨_, _, e, _⟩ => by rw [e]; rfl) fun cdv A outer s H E hr ds M Pd PE h => ?_
  obtain ⟨a_value, a_history, rfl, h⟩ := h
  have hu := hr.units
  refine WS.ends ?_
  refine ws_if <| et_w <| ew_or <| et_not <| et_val <| ex_callF (ok_is_content R) (hr.mono (by decide)) R.m_is_content R.F_is_content R.b_is_content <| ea_cons <| ex_var ⟨rfl, rfl⟩ <| ea_nil <| ⟨a_value, rfl, outU (ob h) (fun z1 h => ⟨_, rfl, cifN h (fun h => ew_or1 <| et_cmp <| ex_callB R.n_len PyProof.Rows.Boot.«len» <| ea_cons <| ex_var ⟨rfl, rfl⟩ <| ea_nil <| r_lenS (ob h) fun z3 h => ex_callB R.n_len PyProof.Rows.Boot.«len» <| ea_cons <| ex_prop R.L_History.cl R.V_History_file (ok_History_file R) (hr.mono (by decide)) R.b_History_file <| ex_var ⟨rfl, rfl⟩ <| ⟨⟨"", .inl ⟨_, _, rfl, by decide⟩⟩, ap_all ⟨a_history, rfl, outU (ne_out (E' := fun _ => False) (ob h)) (fun z4 h => ea_nil <| c_lenOwn (ok_File_len R) (hr.mono (by decide)) R.M_File_len.1 R.M_File_len.2 R.b_File_len (fun _ => .inl ⟨_, _, rfl, by decide⟩) ⟨z4, rfl, lenO (ob h) fun z5 h => o_neI <| ⟨_, rfl, cif h (fun h => ?g6) (fun h => ?g7)⟩⟩) (fun _ h => h.elim)⟩⟩) (fun h => ⟨fun _ => ?g2, fun z => nomatch z⟩)⟩) (fun _ h => dX [] h)⟩
  case g2 =>
    exact ws_raise rfl R.S_InvalidContent R.mc_InvalidContent R.n_super hr <| ex_asA <| ex_var ⟨rfl, rfl⟩ <| ⟨anyD (clR R) (Any.str a_value), (by first | rfl | (simp only [anyD, anyDL, anyDL_map, List.map_map]; done) | (simp only [anyD, anyDL, anyDL_map, List.map_map]; rfl) | (simp only [anyD, anyDL, anyDL_map, List.map_map, stepA_comp, stepA_D]; rfl) | (simp only [anyD, anyDL, anyDL_map, List.map_map, stepA_comp, stepA_D]; done)), (dX [] h)⟩
  case g6 =>
    exact ws_raise rfl R.S_InvalidContent R.mc_InvalidContent R.n_super hr <| ex_asA <| ex_var ⟨rfl, rfl⟩ <| ⟨anyD (clR R) (Any.str a_value), (by first | rfl | (simp only [anyD, anyDL, anyDL_map, List.map_map]; done) | (simp only [anyD, anyDL, anyDL_map, List.map_map]; rfl) | (simp only [anyD, anyDL, anyDL_map, List.map_map, stepA_comp, stepA_D]; rfl) | (simp only [anyD, anyDL, anyDL_map, List.map_map, stepA_comp, stepA_D]; done)), (dX [] h)⟩
  case g7 =>
    refine ws_nil ?_
    exact ws_nil (dN [] h)

def S_number_of (R : Prg K mg) : Spc := fun ds M P E => ∃ (a_columns : (List (List Str))) (a_counts : (List (List Int))) (a_wanted : (List Str)), ds = [((lstD (lstD Dat.str)) a_columns), ((lstD (lstD Dat.int)) a_counts), ((lstD Dat.str) a_wanted)] ∧ (m_number_of a_columns a_counts a_wanted).Out (fun r => P ((optD Dat.int) r) M) (fun x => E (exE R x) M)
theorem ok_number_of (R : Prg K mg) : FnD PR w K mg base 2 R.f_number_of R.d_number_of P_number_of (S_number_of R) := by
  refine fn_d false R.F_number_of sc_number_of (fun h => nomatch h) (fun ds M P E ⟨_, _, _, e, _⟩ => by rw [e]; rfl) fun cdv A outer s H E hr ds M Pd PE h => ?_
  obtain ⟨a_columns, a_counts, a_wanted, rfl, h⟩ := h
  have hu := hr.units
  refine WS.ends ?_
  refine ws_set <| ex_int <| ?_
  refine ws_set <| ex_int <| ?_
  refine ws_forT <| ei_enumT (lstD Dat.str) R.n_enumerate <| ex_var ⟨rfl, rfl⟩ <| ⟨a_columns, rfl, forT (pairD Dat.int (lstD Dat.str)) (xs := (enumL a_columns)) (fun (s1 : (Int × Int)) τ M' => ∃ d5 d6 d7 d8 d9, [some ((lstD (lstD Dat.str)) a_columns), some ((lstD (lstD Dat.int)) a_counts), some ((lstD Dat.str) a_wanted), some (.int s1.1), some (.int s1.2), d5, d6, d7, d8, d9] = τ ∧ M = M') (ob h) ⟨_, _, _, _, _, rfl, rfl⟩ (fun _ _ _ _ => trivial) ?g21 ?g22⟩
  case g21 =>
    rintro x2 s1 _ _ N ⟨d5, d6, d7, d8, d9, rfl, rfl⟩ h hrt3
    refine gx_tup <| gxs_cons <| gx_name  <| gxs_cons <| gx_name  <| gxs_nil <| ?_
    refine ws_setLcT [("text", 8), ("at", 9)] <| ei_list <| ex_callF (ok_readings R) (hr.mono (by decide)) R.m_readings R.F_readings R.b_readings <| ea_cons <| ex_var ⟨rfl, rfl⟩ <| ea_cons <| ex_var ⟨rfl, rfl⟩ <| ea_nil <| ⟨x2.2, s1.2, rfl, outU (ob h) (fun z5 h => ⟨_, rfl, compT (pairD Dat.str Dat.int) Dat.int (xs := z5) (ob h) trivial (fun x6 _ h s H C cl fp => gc_tup <| gcs_cons <| gc_name  <| gcs_cons <| gc_name  <| gcs_nil <| fun s H C cl fp => ef_one <| et_cmp <| ex_var ⟨rfl, rfl⟩ <| ex_ix <| ex_var ⟨rfl, rfl⟩ <| ex_var ⟨rfl, rfl⟩ <| r_ix Dat.str (xs := a_wanted) (ob h) fun z7 h => o_eqT <| ⟨_, rfl, cif h (fun h => fun s H C cl fp => ex_var ⟨rfl, rfl⟩ <| ⟨rfl, x6.2, rfl, h⟩) (fun h => ⟨rfl, h⟩)⟩) (fun l8 h => ?_)⟩) (fun _ h => dX [] h)⟩
    refine ws_if <| et_cmp <| ex_var ⟨rfl, rfl⟩ <| ex_lst <| ea_nil ⟨ln, r_eqNilT Dat.int hu <| ⟨_, rfl, cif h (fun h => ?g9) (fun h => ?g19)⟩⟩
    case g9 =>
      exact ws_ret <| ex_non <| (dN [] (hrt3 _ h))
    case g19 =>
      refine ws_nil ?_
      refine ws_augAdd rfl <| ex_callB R.n_sum PyProof.Rows.Boot.«sum» <| ea_cons <| ex_lcT [("text", 8), ("at", 9)] <| ei_list <| ex_callF (ok_readings R) (hr.mono (by decide)) R.m_readings R.F_readings R.b_readings <| ea_cons <| ex_var ⟨rfl, rfl⟩ <| ea_cons <| ex_var ⟨rfl, rfl⟩ <| ea_nil <| ⟨x2.2, s1.2, rfl, outU (ob h) (fun z10 h => ⟨_, rfl, compT (pairD Dat.str Dat.int) Dat.int (xs := z10) (ob h) trivial (fun x11 _ h s H C cl fp => gc_tup <| gcs_cons <| gc_name  <| gcs_cons <| gc_name  <| gcs_nil <| fun s H C cl fp => ef_one <| et_cmp <| ex_var ⟨rfl, rfl⟩ <| ex_ix <| ex_var ⟨rfl, rfl⟩ <| ex_var ⟨rfl, rfl⟩ <| r_ix Dat.str (xs := a_wanted) (ob h) fun z12 h => o_ltT <| ⟨_, rfl, cif h (fun h => fun s H C cl fp => ex_ix <| ex_ix <| ex_var ⟨rfl, rfl⟩ <| ex_bin <| ex_var ⟨rfl, rfl⟩ <| ex_int <| o_add <| r_ix (lstD Dat.int) (xs := a_counts) (ob h) fun z13 h => ex_var ⟨rfl, rfl⟩ <| r_ix Dat.int (xs := z13) (ob h) fun z14 h => ⟨rfl, z14, rfl, h⟩) (fun h => ⟨rfl, h⟩)⟩) (fun l15 h => ea_nil <| c_sumT (ns := l15) <| ⟨_, rfl, ?_⟩)⟩) (fun _ h => dX [] h)⟩
      refine ws_set <| ex_ix <| ex_var ⟨rfl, rfl⟩ <| ex_int <| r_ix Dat.int (xs := l8) (ob h) fun z16 h => ?_
      exact ws_nil ⟨((s1.1 + (l15.sum)), z16), ⟨_, _, _, _, _, rfl, rfl⟩, h⟩
  case g22 =>
    rintro s1 _ _ ⟨d5, d6, d7, d8, d9, rfl, rfl⟩ h
    replace h := finO h
    exact ws_ret <| ex_var ⟨rfl, rfl⟩ <| (dN [] h)

def S_copy_number (R : Prg K mg) : Spc := fun ds M P E => ∃ (a_history : (Str × List (Int × Str))) (a_size : Int) (a_content : Str) (a_down : Bool), ds = [((historyD R) a_history), (.int a_size), (.str a_content), (.bl a_down)] ∧ (m_copy_number a_history a_size a_content a_down).Out (fun r => P ((optD Dat.int) r) M) (fun x => E (exE R x) M)
theorem ok_copy_number (R : Prg K mg) : FnD PR w K mg base 4 R.f_copy_number R.d_copy_number P_copy_number (S_copy_number R) := by
  refine fn_d false R.F_copy_number sc_copy_number (fun h => nomatch h) (fun ds M P E ⟨_, _, _, _, e, _⟩ => by rw [e]; rfl) fun cdv A outer s H E hr ds M Pd PE h => ?_
  obtain ⟨a_history, a_size, a_content, a_down, rfl, h⟩ := h
  have hu := hr.units
  refine WS.ends ?_
  refine ws_expr <| ex_callF (ok_check_asked R) (hr.mono (by decide)) R.m_check_asked R.F_check_asked R.b_check_asked <| ea_cons <| ex_var ⟨rfl, rfl⟩ <| ea_cons <| ex_var ⟨rfl, rfl⟩ <| ea_nil <| ⟨a_history, a_size, rfl, outU (ob h) (fun z1 h => ?_) (fun _ h => dX [] h)⟩
  refine ws_expr <| ex_callF (ok_check_content R) (hr.mono (by decide)) R.m_check_content R.F_check_content R.b_check_content <| ea_cons <| ex_var ⟨rfl, rfl⟩ <| ea_cons <| ex_var ⟨rfl, rfl⟩ <| ea_nil <| ⟨a_content, a_history, rfl, outU (ob h) (fun z2 h => ?_) (fun _ h => dX [] h)⟩
  refine ws_set <| ex_callF (ok_columns_along R) (hr.mono (by decide)) R.m_columns_along R.F_columns_along R.b_columns_along <| ea_cons <| ex_mv0 <| ex_var ⟨rfl, rfl⟩ <| mvD0 ⟨_, ⟨_, _, _, _, R.L_History.cl, R.M_History_states, ok_History_states R, hr.mono (by decide), R.b_History_states⟩, fun M => .inl ⟨_, _, rfl, by decide⟩⟩ ⟨a_history, rfl, outU (ob h) (fun z3 h => ea_cons <| ex_var ⟨rfl, rfl⟩ <| ea_cons <| ex_var ⟨rfl, rfl⟩ <| ea_nil <| ⟨z3, a_size, a_down, rfl, outU (ob h) (fun z4 h => ?_) (fun _ h => dX [] h)⟩) (fun _ h => dX [] h)⟩
  exact ws_ret <| ex_callF (ok_number_of R) (hr.mono (by decide)) R.m_number_of R.F_number_of R.b_number_of <| ea_cons <| ex_var ⟨rfl, rfl⟩ <| ea_cons <| ex_callF (ok_counts_of R) (hr.mono (by decide)) R.m_counts_of R.F_counts_of R.b_counts_of <| ea_cons <| ex_var ⟨rfl, rfl⟩ <| ea_cons <| ex_bin <| ex_callB R.n_len PyProof.Rows.Boot.«len» <| ea_cons <| ex_var ⟨rfl, rfl⟩ <| ea_nil <| c_lenOwn (ok_History_len R) (hr.mono (by decide)) R.M_History_len.1 R.M_History_len.2 R.b_History_len (fun _ => .inl ⟨_, _, rfl, by decide⟩) ⟨a_history, rfl, lenO (ob h) fun z5 h => ex_int <| o_add <| ea_nil <| ⟨z4, (z5 + (1 : Int)), rfl, outU (ob h) (fun z6 h => ea_cons <| ex_callF (ok_blocks_of R) (hr.mono (by decide)) R.m_blocks_of R.F_blocks_of R.b_blocks_of <| ea_cons <| ex_var ⟨rfl, rfl⟩ <| ea_cons <| ex_var ⟨rfl, rfl⟩ <| ea_nil <| ⟨a_content, a_size, rfl, outU (ob h) (fun z7 h => ea_nil <| ⟨z4, z6, z7, rfl, outU (ob h) (fun z8 h => (dN [] h)) (fun _ h => dX [] h)⟩) (fun _ h => dX [] h)⟩) (fun _ h => dX [] h)⟩⟩

def S_earliest (R : Prg K mg) : Spc := fun ds M P E => ∃ (a_history : (Str × List (Int × Str))) (a_size : Int) (a_content : Str) (a_down : Bool), ds = [((historyD R) a_history), (.int a_size), (.str a_content), (.bl a_down)] ∧ (m_earliest a_history a_size a_content a_down).Out (fun r => P ((pairD (optD (lstD Dat.int)) (optD (pairD Dat.int Dat.int))) r) M) (fun x => E (exE R x) M)
theorem ok_earliest (R : Prg K mg) : FnD PR w K mg base 4 R.f_earliest R.d_earliest P_earliest (S_earliest R) := by
  refine fn_d false R.F_earliest sc_earliest (fun h => nomatch h) (fun ds M P E ⟨_, _, _, _, e, _⟩ => by rw [e]; rfl) fun cdv A outer s H E hr ds M Pd PE h => ?_
  obtain ⟨a_history, a_size, a_content, a_down, rfl, h⟩ := h
  have hu := hr.units
  refine WS.ends ?_
  refine ws_set <| ex_callF (ok_columns_of R) (hr.mono (by decide)) R.m_columns_of R.F_columns_of R.b_columns_of <| ea_cons <| ex_mv0 <| ex_var ⟨rfl, rfl⟩ <| mvD0 ⟨_, ⟨_, _, _, _, R.L_History.cl, R.M_History_states, ok_History_states R, hr.mono (by decide), R.b_History_states⟩, fun M => .inl ⟨_, _, rfl, by decide⟩⟩ ⟨a_history, rfl, outU (ob h) (fun z1 h => ea_cons <| ex_var ⟨rfl, rfl⟩ <| ea_nil <| ⟨z1, a_size, rfl, outU (ob h) (fun z2 h => ?_) (fun _ h => dX [] h)⟩) (fun _ h => dX [] h)⟩
  refine ws_set <| ex_callF (ok_blocks_of R) (hr.mono (by decide)) R.m_blocks_of R.F_blocks_of R.b_blocks_of <| ea_cons <| ex_var ⟨rfl, rfl⟩ <| ea_cons <| ex_var ⟨rfl, rfl⟩ <| ea_nil <| ⟨a_content, a_size, rfl, outU (ob h) (fun z3 h => ?_) (fun _ h => dX [] h)⟩
  refine ws_set <| ex_listRng R.n_list R.n_range <| ex_callB R.n_len PyProof.Rows.Boot.«len» <| ea_cons <| ex_var ⟨rfl, rfl⟩ <| ea_nil <| c_lenT (lstD Dat.str) (xs := z2) <| ⟨_, rfl, _, (ob h), fun z4 h => ?_⟩
  refine ws_setLcC [("block", 9)] <| ei_list <| ex_var ⟨rfl, rfl⟩ <| ⟨_, rfl, compT Dat.int Dat.int (xs := z4) (ob h) trivial (fun x6 _ h s H C cl fp => gc_name  <| fun s H C cl fp => ef_nil ⟨fun _ s H C cl fp => ex_int <| ⟨rfl, (0 : Int), rfl, h⟩, fun z => nomatch z⟩) (fun l7 h => cellT fun q5 => ?_)⟩
  refine ws_set <| ex_int <| ?_
  refine ws_forT <| ei_list <| exJQ (lstD Dat.int) (ob h) (fun _ h => ex_if <| et_val <| ex_var ⟨rfl, rfl⟩ <| ⟨_, rfl, cif h (fun h => ex_revLT Dat.int <| ex_var ⟨rfl, rfl⟩ <| ⟨z4, (.inl rfl), ⟨rfl, z4.reverse, rfl, h⟩⟩) (fun h => ex_var ⟨rfl, rfl⟩ <| ⟨rfl, z4, rfl, h⟩)⟩) fun z8 h => ⟨_, rfl, forT Dat.int (xs := z8) (fun (s9 : (Int × (List Int))) τ M' => ∃ d9 d10 d11, [some ((historyD R) a_history), some (.int a_size), some (.str a_content), some (.bl a_down), some ((lstD (lstD Dat.str)) z2), some ((lstD Dat.str) z3), some ((lstD Dat.int) z4), some (.raw (.ref q5)), some (.int s9.1), d9, d10, d11] = τ ∧ (q5, .lst (s9.2.map Dat.int)) :: M = M') (ob h) ⟨_, _, _, rfl, rfl⟩ (fun _ _ _ _ => trivial) ?g26 ?g27⟩
  case g26 =>
    rintro x10 s9 _ _ N ⟨d9, d10, d11, rfl, rfl⟩ h hrt11
    refine gx_name  <| ?_
    refine ws_setLcT [("t", 11)] <| ei_rng2 R.n_range <| ex_var ⟨rfl, rfl⟩ <| ex_callB R.n_len PyProof.Rows.Boot.«len» <| ea_cons <| ex_ix <| ex_var ⟨rfl, rfl⟩ <| ex_var ⟨rfl, rfl⟩ <| r_ix (lstD Dat.str) (xs := z2) (ob h) fun z13 h => ea_nil <| c_lenT Dat.str (xs := z13) <| ⟨s9.1, (z13.length : Int), rfl, rfl, (gd (ob h)).1, have h := (gd (ob h)).2; compT Dat.int Dat.int (xs := (rangeL s9.1 (Int.toNat ((z13.length : Int) - s9.1)))) (ob h) trivial (fun x14 _ h s H C cl fp => gc_name  <| fun s H C cl fp => ef_one <| et_cmp <| ex_ix <| ex_ix <| ex_var ⟨rfl, rfl⟩ <| ex_var ⟨rfl, rfl⟩ <| r_ix (lstD Dat.str) (xs := z2) (ob h) fun z15 h => ex_var ⟨rfl, rfl⟩ <| r_ix Dat.str (xs := z15) (ob h) fun z16 h => ex_ix <| ex_var ⟨rfl, rfl⟩ <| ex_var ⟨rfl, rfl⟩ <| r_ix Dat.str (xs := z3) (ob h) fun z17 h => o_eqT <| ⟨_, rfl, cif h (fun h => fun s H C cl fp => ex_var ⟨rfl, rfl⟩ <| ⟨rfl, x14, rfl, h⟩) (fun h => ⟨rfl, h⟩)⟩) (fun l18 h => ?_)⟩
    refine ws_if <| et_cmp <| ex_var ⟨rfl, rfl⟩ <| ex_lst <| ea_nil ⟨ln, r_eqNilT Dat.int hu <| ⟨_, rfl, cif h (fun h => ?g19) (fun h => ?g24)⟩⟩
    case g19 =>
      exact ws_ret <| ex_tup <| ea_cons <| ex_non <| ea_cons <| ex_tup <| ea_cons <| ex_var ⟨rfl, rfl⟩ <| ea_cons <| ex_var ⟨rfl, rfl⟩ <| ea_nil ⟨ln, ea_nil ⟨ln, (dN [_] (hrt11 _ h))⟩⟩
    case g24 =>
      refine ws_nil ?_
      refine ws_set <| ex_ix <| ex_var ⟨rfl, rfl⟩ <| ex_int <| r_ix Dat.int (xs := l18) (ob h) fun z20 h => ?_
      refine ws_asg <| ex_var ⟨rfl, rfl⟩ <| gx_subT <| ex_var ⟨rfl, rfl⟩ <| ex_var ⟨rfl, rfl⟩ <| r_set [] Dat.int (xs := s9.2) (x := z20) (ob h) fun z21 h => ?_
      exact ws_nil ⟨(z20, z21), ⟨_, _, _, rfl, rfl⟩, h⟩
  case g27 =>
    rintro s9 _ _ ⟨d9, d10, d11, rfl, rfl⟩ h
    replace h := finO h
    refine ws_frz 7 rfl (List.perm_middle (l₁ := [])) ?_
    exact ws_ret <| ex_tup <| ea_cons <| ex_var ⟨rfl, rfl⟩ <| ea_cons <| ex_non <| ea_nil ⟨ln, (dN [] h)⟩

def S_copy_moments (R : Prg K mg) : Spc := fun ds M P E => ∃ (a_history : (Str × List (Int × Str))) (a_size : Int) (a_content : Str) (a_down : Bool), ds = [((historyD R) a_history), (.int a_size), (.str a_content), (.bl a_down)] ∧ (m_copy_moments a_history a_size a_content a_down).Out (fun r => P ((optD (lstD Dat.int)) r) M) (fun x => E (exE R x) M)
theorem ok_copy_moments (R : Prg K mg) : FnD PR w K mg base 5 R.f_copy_moments R.d_copy_moments P_copy_moments (S_copy_moments R) := by
  refine fn_d false R.F_copy_moments sc_copy_moments (fun h => nomatch h) (fun ds M P E ⟨_, _, _, _, e, _⟩ => by rw [e]; rfl) fun cdv A outer s H E hr ds M Pd PE h => ?_
  obtain ⟨a_history, a_size, a_content, a_down, rfl, h⟩ := h
  have hu := hr.units
  refine WS.ends ?_
  refine ws_expr <| ex_callF (ok_check_asked R) (hr.mono (by decide)) R.m_check_asked R.F_check_asked R.b_check_asked <| ea_cons <| ex_var ⟨rfl, rfl⟩ <| ea_cons <| ex_var ⟨rfl, rfl⟩ <| ea_nil <| ⟨a_history, a_size, rfl, outU (ob h) (fun z1 h => ?_) (fun _ h => dX [] h)⟩
  refine ws_expr <| ex_callF (ok_check_content R) (hr.mono (by decide)) R.m_check_content R.F_check_content R.b_check_content <| ea_cons <| ex_var ⟨rfl, rfl⟩ <| ea_cons <| ex_var ⟨rfl, rfl⟩ <| ea_nil <| ⟨a_content, a_history, rfl, outU (ob h) (fun z2 h => ?_) (fun _ h => dX [] h)⟩
  exact ws_ret <| ex_ix <| ex_callF (ok_earliest R) (hr.mono (by decide)) R.m_earliest R.F_earliest R.b_earliest <| ea_cons <| ex_var ⟨rfl, rfl⟩ <| ea_cons <| ex_var ⟨rfl, rfl⟩ <| ea_cons <| ex_var ⟨rfl, rfl⟩ <| ea_cons <| ex_var ⟨rfl, rfl⟩ <| ea_nil <| ⟨a_history, a_size, a_content, a_down, rfl, outU (ob h) (fun z3 h => ex_int <| i_tup rfl <| (dN [] h)) (fun _ h => dX [] h)⟩

def S_late_block (R : Prg K mg) : Spc := fun ds M P E => ∃ (a_history : (Str × List (Int × Str))) (a_size : Int) (a_content : Str) (a_down : Bool), ds = [((historyD R) a_history), (.int a_size), (.str a_content), (.bl a_down)] ∧ (m_late_block a_history a_size a_content a_down).Out (fun r => P ((optD (pairD Dat.int Dat.int)) r) M) (fun x => E (exE R x) M)
theorem ok_late_block (R : Prg K mg) : FnD PR w K mg base 5 R.f_late_block R.d_late_block P_late_block (S_late_block R) := by
  refine fn_d false R.F_late_block sc_late_block (fun h => nomatch h) (fun ds M P E ⟨_, _, _, _, e, _⟩ => by rw [e]; rfl) fun cdv A outer s H E hr ds M Pd PE h => ?_
  obtain ⟨a_history, a_size, a_content, a_down, rfl, h⟩ := h
  have hu := hr.units
  refine WS.ends ?_
  refine ws_expr <| ex_callF (ok_check_asked R) (hr.mono (by decide)) R.m_check_asked R.F_check_asked R.b_check_asked <| ea_cons <| ex_var ⟨rfl, rfl⟩ <| ea_cons <| ex_var ⟨rfl, rfl⟩ <| ea_nil <| ⟨a_history, a_size, rfl, outU (ob h) (fun z1 h => ?_) (fun _ h => dX [] h)⟩
  refine ws_expr <| ex_callF (ok_check_content R) (hr.mono (by decide)) R.m_check_content R.F_check_content R.b_check_content <| ea_cons <| ex_var ⟨rfl, rfl⟩ <| ea_cons <| ex_var ⟨rfl, rfl⟩ <| ea_nil <| ⟨a_content, a_history, rfl, outU (ob h) (fun z2 h => ?_) (fun _ h => dX [] h)⟩
  exact ws_ret <| ex_ix <| ex_callF (ok_earliest R) (hr.mono (by decide)) R.m_earliest R.F_earliest R.b_earliest <| ea_cons <| ex_var ⟨rfl, rfl⟩ <| ea_cons <| ex_var ⟨rfl, rfl⟩ <| ea_cons <| ex_var ⟨rfl, rfl⟩ <| ea_cons <| ex_var ⟨rfl, rfl⟩ <| ea_nil <| ⟨a_history, a_size, a_content, a_down, rfl, outU (ob h) (fun z3 h => ex_int <| i_tup rfl <| (dN [] h)) (fun _ h => dX [] h)⟩

def S_law_mixes (R : Prg K mg) : Spc := fun ds M P E => ∃ (a_states : (List Str)) (a_size : Int), ds = [((lstD Dat.str) a_states), (.int a_size)] ∧ (m_law_mixes a_states a_size).Out (fun r => P ((lstD Dat.str) r) M) (fun x => E (exE R x) M)
theorem ok_law_mixes (R : Prg K mg) : FnD PR w K mg base 2 R.f_law_mixes R.d_law_mixes P_law_mixes (S_law_mixes R) := by
  refine fn_d false R.F_law_mixes sc_law_mixes (fun h => nomatch h) (fun ds M P E ⟨_, _, e, _⟩ => by rw [e]; rfl) fun cdv A outer s H E hr ds M Pd PE h => ?_
  obtain ⟨a_states, a_size, rfl, h⟩ := h
  have hu := hr.units
  refine WS.ends ?_
  refine ws_set <| ex_lst <| ea_cons <| ex_str <| ea_nil ⟨ln, ?_⟩
  refine ws_forT <| ei_rng1 R.n_range <| ex_callB R.n_len PyProof.Rows.Boot.«len» <| ea_cons <| ex_callF (ok_law_blocks R) (hr.mono (by decide)) R.m_law_blocks R.F_law_blocks R.b_law_blocks <| ea_cons <| ex_ix <| ex_var ⟨rfl, rfl⟩ <| ex_int <| r_ix Dat.str (xs := a_states) (ob h) fun z1 h => ea_cons <| ex_var ⟨rfl, rfl⟩ <| ea_nil <| ⟨z1, a_size, rfl, outU (ob h) (fun z2 h => ea_nil <| c_lenT Dat.str (xs := z2) <| ⟨(z2.length : Int), rfl, (gd (ob h)).1, have h := (gd (ob h)).2; foldT Dat.int (xs := (rangeL 0 (Int.toNat (z2.length : Int)))) (fun (s3 : (List Str)) τ M' => ∃ d3 d4 d5 d6 d7, [some ((lstD Dat.str) a_states), some (.int a_size), some ((lstD Dat.str) s3), d3, d4, d5, d6, d7] = τ ∧ M = M') (ob h) ⟨_, _, _, _, _, rfl, rfl⟩ (fun _ _ _ _ => trivial) ?g25 ?g26⟩) (fun _ h => dX [] h)⟩
  case g25 =>
    rintro x4 s3 _ _ N ⟨d3, d4, d5, d6, d7, rfl, rfl⟩ h
    refine gx_name  <| ?_
    refine ws_set <| ex_lst <| ea_nil ⟨ln, ?_⟩
    refine ws_forT <| ei_list <| ex_srtSetS R.n_sorted R.n_set hu <| ex_lcT [("state", 6)] <| ei_list <| ex_var ⟨rfl, rfl⟩ <| ⟨_, rfl, compT Dat.str Dat.str (xs := a_states) (ob h) trivial (fun x7 _ h s H C cl fp => gc_name  <| fun s H C cl fp => ef_nil ⟨fun _ s H C cl fp => ex_ix <| ex_callF (ok_law_blocks R) (hr.mono (by decide)) R.m_law_blocks R.F_law_blocks R.b_law_blocks <| ea_cons <| ex_var ⟨rfl, rfl⟩ <| ea_cons <| ex_var ⟨rfl, rfl⟩ <| ea_nil <| ⟨x7, a_size, rfl, outU (ob h) (fun z8 h => ex_var ⟨rfl, rfl⟩ <| r_ix Dat.str (xs := z8) (ob h) fun z9 h => ⟨rfl, z9, rfl, h⟩) (fun _ h => h)⟩, fun z => nomatch z⟩) (fun l10 h => ⟨l10, (.inl rfl), _, (ob h), fun z11 h => ⟨_, rfl, foldT Dat.str (xs := z11) (fun (s12 : (List Str)) τ M' => ∃ d5 d6 d7, [some ((lstD Dat.str) a_states), some (.int a_size), some ((lstD Dat.str) s3), some (.int x4), some ((lstD Dat.str) s12), d5, d6, d7] = τ ∧ M = M') (ob h) ⟨_, _, _, rfl, rfl⟩ (fun _ _ _ _ => trivial) ?g21 ?g22⟩⟩)⟩
    case g21 =>
      rintro x13 s12 _ _ N ⟨d5, d6, d7, rfl, rfl⟩ h
      refine gx_name  <| ?_
      refine ws_set <| ex_bin <| ex_var ⟨rfl, rfl⟩ <| ex_lcT [("content", 7)] <| ei_list <| ex_var ⟨rfl, rfl⟩ <| ⟨_, rfl, compT Dat.str Dat.str (xs := s3) (ob h) trivial (fun x16 _ h s H C cl fp => gc_name  <| fun s H C cl fp => ef_nil ⟨fun _ s H C cl fp => ex_bin <| ex_var ⟨rfl, rfl⟩ <| ex_var ⟨rfl, rfl⟩ <| r_cat (ob h) fun z17 h => ⟨rfl, z17, rfl, h⟩, fun z => nomatch z⟩) (fun l18 h => r_catL Dat.str (xs := s12) (ys := l18) (ob h) fun z19 h => ?_)⟩
      exact ws_nil ⟨z19, ⟨_, _, _, rfl, rfl⟩, h⟩
    case g22 =>
      rintro s12 _ _ ⟨d5, d6, d7, rfl, rfl⟩ h
      refine ws_set <| ex_var ⟨rfl, rfl⟩ <| ?_
      exact ws_nil ⟨s12, ⟨_, _, _, _, _, rfl, rfl⟩, h⟩
  case g26 =>
    rintro s3 _ _ ⟨d3, d4, d5, d6, d7, rfl, rfl⟩ h
    exact ws_ret <| ex_callB R.n_sorted PyProof.Rows.Boot.«sorted» <| ea_cons <| ex_var ⟨rfl, rfl⟩ <| ea_nil <| c_sortD pyS pysS (xs := s3) (.inl rfl) hu (ob h) fun z27 h => (dN [] h)

def S_law_early (R : Prg K mg) : Spc := fun ds M P E => ∃ (a_states : (List Str)) (a_size : Int) (a_content : Str) (a_back : Bool), ds = [((lstD Dat.str) a_states), (.int a_size), (.str a_content), (.bl a_back)] ∧ (m_law_early a_states a_size a_content a_back).Out (fun r => P ((pairD (optD (lstD Dat.int)) (optD (pairD Dat.int Dat.int))) r) M) (fun x => E (exE R x) M)
theorem ok_law_early (R : Prg K mg) : FnD PR w K mg base 2 R.f_law_early R.d_law_early P_law_early (S_law_early R) := by
  refine fn_d false R.F_law_early sc_law_early (fun h => nomatch h) (fun ds M P E ⟨_, _, _, _, e, _⟩ => by rw [e]; rfl) fun cdv A outer s H E hr ds M Pd PE h => ?_
  obtain ⟨a_states, a_size, a_content, a_back, rfl, h⟩ := h
  have hu := hr.units
  refine WS.ends ?_
  refine ws_asg <| ex_tup <| ea_cons <| ex_callF (ok_law_blocks R) (hr.mono (by decide)) R.m_law_blocks R.F_law_blocks R.b_law_blocks <| ea_cons <| ex_var ⟨rfl, rfl⟩ <| ea_cons <| ex_var ⟨rfl, rfl⟩ <| ea_nil <| ⟨a_content, a_size, rfl, outU (ob h) (fun z1 h => ea_cons <| ex_lcT [("state", 11)] <| ei_list <| ex_var ⟨rfl, rfl⟩ <| ⟨_, rfl, compT Dat.str (lstD Dat.str) (xs := a_states) (ob h) trivial (fun x2 _ h s H C cl fp => gc_name  <| fun s H C cl fp => ef_nil ⟨fun _ s H C cl fp => ex_callF (ok_law_blocks R) (hr.mono (by decide)) R.m_law_blocks R.F_law_blocks R.b_law_blocks <| ea_cons <| ex_var ⟨rfl, rfl⟩ <| ea_cons <| ex_var ⟨rfl, rfl⟩ <| ea_nil <| ⟨x2, a_size, rfl, outU (ob h) (fun z3 h => ⟨rfl, z3, rfl, h⟩) (fun _ h => h)⟩, fun z => nomatch z⟩) (fun l4 h => ea_nil ⟨ln, gx_tup <| gxs_cons <| gx_name  <| gxs_cons <| gx_name  <| gxs_nil <| ?_⟩)⟩) (fun _ h => dX [] h)⟩
  refine ws_set <| ex_listRng R.n_list R.n_range <| ex_callB R.n_len PyProof.Rows.Boot.«len» <| ea_cons <| ex_var ⟨rfl, rfl⟩ <| ea_nil <| c_lenT Dat.str (xs := z1) <| ⟨_, rfl, _, (ob h), fun z5 h => ?_⟩
  refine ws_ifQ (fun Q τ M' => ∃ s6 : (List Int), ∃ d7 d8 d9 d10 d11 d12, [some ((lstD Dat.str) a_states), some (.int a_size), some (.str a_content), some (.bl a_back), some ((lstD Dat.str) z1), some ((lstD (lstD Dat.str)) l4), some ((lstD Dat.int) s6), d7, d8, d9, d10, d11, d12] = τ ∧ M = M' ∧ Q s6) (ob h) (fun _ h => et_val <| ex_var ⟨rfl, rfl⟩ <| ⟨_, rfl, cif h (fun h => ?g8) (fun h => ?g9)⟩) ?k32
  case g8 =>
    refine ws_set <| ex_revLT Dat.int <| ex_var ⟨rfl, rfl⟩ <| ⟨z5, (.inl rfl), ?_⟩
    exact ws_nil ⟨z5.reverse, _, _, _, _, _, _, rfl, rfl, h⟩
  case g9 =>
    exact ws_nil ⟨z5, _, _, _, _, _, _, rfl, rfl, h⟩
  case k32 =>
    rintro _ _ ⟨s6, d7, d8, d9, d10, d11, d12, rfl, rfl, h⟩
    refine ws_par <| ea_cons <| ex_lcC [("spot", 9)] <| ei_list <| ex_var ⟨rfl, rfl⟩ <| ⟨_, rfl, compT Dat.int Dat.int (xs := s6) (ob h) trivial (fun x11 _ h s H C cl fp => gc_name  <| fun s H C cl fp => ef_nil ⟨fun _ s H C cl fp => ex_int <| ⟨rfl, (0 : Int), rfl, h⟩, fun z => nomatch z⟩) (fun l12 h => cellT fun q10 => ea_cons <| ex_int <| ea_nil ⟨_, _, rfl, ?_⟩)⟩
    refine ws_forT <| ei_list <| ex_var ⟨rfl, rfl⟩ <| ⟨_, rfl, forT Dat.int (xs := s6) (fun (s13 : (Int × (List Int))) τ M' => ∃ d9 d10 d11 d12, [some ((lstD Dat.str) a_states), some (.int a_size), some (.str a_content), some (.bl a_back), some ((lstD Dat.str) z1), some ((lstD (lstD Dat.str)) l4), some ((lstD Dat.int) s6), some (.raw (.ref q10)), some (.int s13.1), d9, d10, d11, d12] = τ ∧ (q10, .lst (s13.2.map Dat.int)) :: M = M') (ob h) ⟨_, _, _, _, rfl, rfl⟩ (fun _ _ _ _ => trivial) ?g29 ?g30⟩
    case g29 =>
      rintro x14 s13 _ _ N ⟨d9, d10, d11, d12, rfl, rfl⟩ h hrt15
      refine gx_name  <| ?_
      refine ws_setLcT [("t", 12)] <| ei_rng2 R.n_range <| ex_var ⟨rfl, rfl⟩ <| ex_callB R.n_len PyProof.Rows.Boot.«len» <| ea_cons <| ex_var ⟨rfl, rfl⟩ <| ea_nil <| c_lenT Dat.str (xs := a_states) <| ⟨s13.1, (a_states.length : Int), rfl, rfl, (gd (ob h)).1, have h := (gd (ob h)).2; compT Dat.int Dat.int (xs := (rangeL s13.1 (Int.toNat ((a_states.length : Int) - s13.1)))) (ob h) trivial (fun x17 _ h s H C cl fp => gc_name  <| fun s H C cl fp => ef_one <| et_cmp <| ex_ix <| ex_ix <| ex_var ⟨rfl, rfl⟩ <| ex_var ⟨rfl, rfl⟩ <| r_ix (lstD Dat.str) (xs := l4) (ob h) fun z18 h => ex_var ⟨rfl, rfl⟩ <| r_ix Dat.str (xs := z18) (ob h) fun z19 h => ex_ix <| ex_var ⟨rfl, rfl⟩ <| ex_var ⟨rfl, rfl⟩ <| r_ix Dat.str (xs := z1) (ob h) fun z20 h => o_eqT <| ⟨_, rfl, cif h (fun h => fun s H C cl fp => ex_var ⟨rfl, rfl⟩ <| ⟨rfl, x17, rfl, h⟩) (fun h => ⟨rfl, h⟩)⟩) (fun l21 h => ?_)⟩
      refine ws_if <| et_cmp <| ex_var ⟨rfl, rfl⟩ <| ex_lst <| ea_nil ⟨ln, r_eqNilT Dat.int hu <| ⟨_, rfl, cif h (fun h => ?g22) (fun h => ?g27)⟩⟩
      case g22 =>
        exact ws_ret <| ex_tup <| ea_cons <| ex_non <| ea_cons <| ex_tup <| ea_cons <| ex_var ⟨rfl, rfl⟩ <| ea_cons <| ex_var ⟨rfl, rfl⟩ <| ea_nil ⟨ln, ea_nil ⟨ln, (dN [_] (hrt15 _ h))⟩⟩
      case g27 =>
        refine ws_nil ?_
        refine ws_set <| ex_ix <| ex_var ⟨rfl, rfl⟩ <| ex_int <| r_ix Dat.int (xs := l21) (ob h) fun z23 h => ?_
        refine ws_asg <| ex_var ⟨rfl, rfl⟩ <| gx_subT <| ex_var ⟨rfl, rfl⟩ <| ex_var ⟨rfl, rfl⟩ <| r_set [] Dat.int (xs := s13.2) (x := z23) (ob h) fun z24 h => ?_
        exact ws_nil ⟨(z23, z24), ⟨_, _, _, _, rfl, rfl⟩, h⟩
    case g30 =>
      rintro s13 _ _ ⟨d9, d10, d11, d12, rfl, rfl⟩ h
      replace h := finO h
      refine ws_frz 7 rfl (List.perm_middle (l₁ := [])) ?_
      exact ws_ret <| ex_tup <| ea_cons <| ex_var ⟨rfl, rfl⟩ <| ea_cons <| ex_non <| ea_nil ⟨ln, (dN [] h)⟩

def S_law_right (R : Prg K mg) : Spc := fun ds M P E => ∃ (a_history : (Str × List (Int × Str))) (a_states : (List Str)) (a_size : Int) (a_back : Bool), ds = [((historyD R) a_history), ((lstD Dat.str) a_states), (.int a_size), (.bl a_back)] ∧ (m_law_right a_history a_states a_size a_back).Out (fun r => P (.bl r) M) (fun x => E (exE R x) M)
theorem ok_law_right (R : Prg K mg) : FnD PR w K mg base 6 R.f_law_right R.d_law_right P_law_right (S_law_right R) := by
  refine fn_d false R.F_law_right sc_law_right (fun h => nomatch h) (fun ds M P E ⟨_, _, _, _, e, _⟩ => by rw [e]; rfl) fun cdv A outer s H E hr ds M Pd PE h => ?_
  obtain ⟨a_history, a_states, a_size, a_back, rfl, h⟩ := h
  have hu := hr.units
  refine WS.ends ?_
  refine ws_set <| ex_callB R.n_len PyProof.Rows.Boot.«len» <| ea_cons <| ex_callF (ok_law_blocks R) (hr.mono (by decide)) R.m_law_blocks R.F_law_blocks R.b_law_blocks <| ea_cons <| ex_ix <| ex_var ⟨rfl, rfl⟩ <| ex_int <| r_ix Dat.str (xs := a_states) (ob h) fun z1 h => ea_cons <| ex_var ⟨rfl, rfl⟩ <| ea_nil <| ⟨z1, a_size, rfl, outU (ob h) (fun z2 h => ea_nil <| c_lenT Dat.str (xs := z2) <| ?_) (fun _ h => dX [] h)⟩
  refine ws_set <| ex_dicC fun q3 => ?_
  refine ws_forT <| ei_list <| ex_callF (ok_law_walks R) (hr.mono (by decide)) R.m_law_walks R.F_law_walks R.b_law_walks <| ea_cons <| ex_callB R.n_len PyProof.Rows.Boot.«len» <| ea_cons <| ex_var ⟨rfl, rfl⟩ <| ea_nil <| c_lenT Dat.str (xs := a_states) <| ea_cons <| ex_var ⟨rfl, rfl⟩ <| ea_nil <| ⟨(a_states.length : Int), (z2.length : Int), rfl, outU (ob h) (fun z4 h => ⟨_, rfl, foldT (lstD Dat.int) (xs := z4) (fun (s5 : (List (Str × (List (List Int))))) τ M' => ∃ d6 d7 d8 d9 d10 d11 d12 d13, [some ((historyD R) a_history), some ((lstD Dat.str) a_states), some (.int a_size), some (.bl a_back), some (.int (z2.length : Int)), some (.raw (.ref q3)), d6, d7, d8, d9, d10, d11, d12, d13] = τ ∧ (q3, .dic (dicD (lstD (lstD Dat.int)) s5)) :: M = M') (ob h) ⟨_, _, _, _, _, _, _, _, rfl, rfl⟩ (fun _ _ _ _ => trivial) ?g20 ?g21⟩) (fun _ h => dX [_] h)⟩
  case g20 =>
    rintro x6 s5 _ _ N ⟨d6, d7, d8, d9, d10, d11, d12, d13, rfl, rfl⟩ h
    refine gx_name  <| ?_
    refine ws_set <| ex_callF (ok_law_read R) (hr.mono (by decide)) R.m_law_read R.F_law_read R.b_law_read <| ea_cons <| ex_var ⟨rfl, rfl⟩ <| ea_cons <| ex_var ⟨rfl, rfl⟩ <| ea_cons <| ex_var ⟨rfl, rfl⟩ <| ea_cons <| ex_var ⟨rfl, rfl⟩ <| ea_nil <| ⟨a_states, a_size, x6, a_back, rfl, outU (ob h) (fun z9 h => ?_) (fun _ h => dX [_] h)⟩
    refine ws_set <| ex_var ⟨rfl, rfl⟩ <| ?_
    refine ws_ifQ (fun Q τ M' => ∃ s10 : (List Int), ∃ d9 d10 d11 d12 d13, [some ((historyD R) a_history), some ((lstD Dat.str) a_states), some (.int a_size), some (.bl a_back), some (.int (z2.length : Int)), some (.raw (.ref q3)), some ((lstD Dat.int) x6), some (.str z9), some ((lstD Dat.int) s10), d9, d10, d11, d12, d13] = τ ∧ (q3, .dic (dicD (lstD (lstD Dat.int)) s5)) :: M = M' ∧ Q s10) (ob h) (fun _ h => et_val <| ex_var ⟨rfl, rfl⟩ <| ⟨_, rfl, cif h (fun h => ?g12) (fun h => ?g13)⟩) ?k17
    case g12 =>
      refine ws_set <| ex_revLT Dat.int <| ex_var ⟨rfl, rfl⟩ <| ⟨x6, (.inl rfl), ?_⟩
      exact ws_nil ⟨x6.reverse, _, _, _, _, _, rfl, rfl, h⟩
    case g13 =>
      exact ws_nil ⟨x6, _, _, _, _, _, rfl, rfl, h⟩
    case k17 =>
      rintro _ _ ⟨s10, d9, d10, d11, d12, d13, rfl, rfl, h⟩
      refine ws_dput (lstD (lstD Dat.int)) hu <| ex_bin <| ex_ggetD kyS (lstD (lstD Dat.int)) hu <| ex_var ⟨rfl, rfl⟩ ⟨_, s5, rfl, List.mem_cons_self, ex_var ⟨rfl, rfl⟩ <| ex_lst <| ea_nil ⟨ln, ⟨s5, z9, ([] : List (List Int)), rfl, rfl, List.mem_cons_self, ex_lst <| ea_cons <| ex_var ⟨rfl, rfl⟩ <| ea_nil ⟨ln, r_catL (lstD Dat.int) (xs := ((gget s5 z9).getD ([] : List (List Int)))) (ys := ([s10] : List (List Int))) (ob h) fun z14 h => ex_var ⟨rfl, rfl⟩ <| ex_var ⟨rfl, rfl⟩ <| ⟨_, s5, z9, z14, [], _, _, _, rfl, rfl, rfl, rfl, (ob h), fun z15 h => ?_⟩⟩⟩⟩⟩
      exact ws_nil ⟨z15, ⟨_, _, _, _, _, _, _, _, rfl, rfl⟩, h⟩
  case g21 =>
    rintro s5 _ _ ⟨d6, d7, d8, d9, d10, d11, d12, d13, rfl, rfl⟩ h
    refine ws_set <| ex_callB R.n_sorted PyProof.Rows.Boot.«sorted» <| ea_cons <| ex_callTy R.n_list PyProof.Rows.Boot.«list» <| ea_cons <| ex_var ⟨rfl, rfl⟩ <| ea_nil <| c_listD (lstD (lstD Dat.int)) List.mem_cons_self <| ea_nil <| c_sortD pyS pysS (xs := (s5.map (·.1))) (.inl rfl) hu (ob h) fun z22 h => ?_
    refine ws_if <| et_cmp <| ex_callK (ok_copy_count R) (hr.mono (by decide)) R.m_copy_count R.F_copy_count.kp R.kb_copy_count_2_down <| ea_cons <| ex_var ⟨rfl, rfl⟩ <| ea_cons <| ex_var ⟨rfl, rfl⟩ <| ea_nil ⟨rfl, ek_cons <| ex_var ⟨rfl, rfl⟩ <| ek_nil ⟨rfl, ⟨a_history, a_size, a_back, rfl, outU (ob h) (fun z23 h => ex_callB R.n_len PyProof.Rows.Boot.«len» <| ea_cons <| ex_var ⟨rfl, rfl⟩ <| ea_nil <| c_lenT Dat.str (xs := z22) <| o_neI <| ⟨_, rfl, cif h (fun h => ?g24) (fun h => ?g78)⟩) (fun _ h => dX [_] h)⟩⟩⟩
    case g24 =>
      exact ws_ret <| ex_bl <| (dN [_] h)
    case g78 =>
      refine ws_nil ?_
      refine ws_forT <| ei_rng1 R.n_range <| ex_callB R.n_len PyProof.Rows.Boot.«len» <| ea_cons <| ex_var ⟨rfl, rfl⟩ <| ea_nil <| c_lenT Dat.str (xs := z22) <| ⟨(z22.length : Int), rfl, (gd (ob h)).1, have h := (gd (ob h)).2; forT Dat.int (xs := (rangeL 0 (Int.toNat (z22.length : Int)))) (fun (s25 : Unit) τ M' => ∃ d6 d7 d8 d10 d11 d12 d13, [some ((historyD R) a_history), some ((lstD Dat.str) a_states), some (.int a_size), some (.bl a_back), some (.int (z2.length : Int)), some (.raw (.ref q3)), d6, d7, d8, some ((lstD Dat.str) z22), d10, d11, d12, d13] = τ ∧ (q3, .dic (dicD (lstD (lstD Dat.int)) s5)) :: M = M') (ob h) ⟨_, _, _, _, _, _, _, rfl, rfl⟩ (fun _ _ _ _ => trivial) ?g56 ?g57⟩
      case g56 =>
        rintro x26 s25 _ _ N ⟨d6, d7, d8, d10, d11, d12, d13, rfl, rfl⟩ h hrt27
        refine gx_name  <| ?_
        refine ws_set <| ex_ix <| ex_var ⟨rfl, rfl⟩ <| ex_var ⟨rfl, rfl⟩ <| r_ix Dat.str (xs := z22) (ob h) fun z29 h => ?_
        refine ws_setLcT [("k", 12)] <| ei_rng1 R.n_range <| ex_var ⟨rfl, rfl⟩ <| ⟨(z2.length : Int), rfl, (gd (ob h)).1, have h := (gd (ob h)).2; compT Dat.int Dat.int (xs := (rangeL 0 (Int.toNat (z2.length : Int)))) (ob h) trivial (fun x30 _ h s H C cl fp => gc_name  <| fun s H C cl fp => ef_nil ⟨fun _ s H C cl fp => ex_callB R.n_min PyProof.Rows.Boot.«min» <| ea_cons <| ex_lcT [("row", 13)] <| ei_list <| ex_gget (hs := fun _ _ => rfl) kyS (lstD (lstD Dat.int)) hu <| ex_var ⟨rfl, rfl⟩ <| ex_var ⟨rfl, rfl⟩ <| ⟨_, s5, z29, _, _, rfl, rfl, List.mem_cons_self, (ob h), fun z31 h => ⟨_, rfl, compT (lstD Dat.int) Dat.int (xs := z31) (ob h) trivial (fun x32 _ h s H C cl fp => gc_name  <| fun s H C cl fp => ef_nil ⟨fun _ s H C cl fp => ex_ix <| ex_var ⟨rfl, rfl⟩ <| ex_var ⟨rfl, rfl⟩ <| r_ix Dat.int (xs := x32) (ob h) fun z33 h => ⟨rfl, z33, rfl, h⟩, fun z => nomatch z⟩) (fun l34 h => ea_nil <| c_minL (ns := l34) (ob h) fun z35 h => ⟨rfl, z35, rfl, h⟩)⟩⟩, fun z => nomatch z⟩) (fun l36 h => ?_)⟩
        refine ws_if <| et_cmp <| ex_callK (ok_copy_at R) (hr.mono (by decide)) R.m_copy_at R.F_copy_at.kp R.kb_copy_at_3_down <| ea_cons <| ex_var ⟨rfl, rfl⟩ <| ea_cons <| ex_var ⟨rfl, rfl⟩ <| ea_cons <| ex_var ⟨rfl, rfl⟩ <| ea_nil ⟨rfl, ek_cons <| ex_var ⟨rfl, rfl⟩ <| ek_nil ⟨rfl, ⟨a_history, a_size, x26, a_back, rfl, outU (ob h) (fun z37 h => ex_var ⟨rfl, rfl⟩ <| o_neT <| ⟨_, rfl, cif h (fun h => ?g38) (fun h => ?g53)⟩) (fun _ h => dX [_] h)⟩⟩⟩
        case g38 =>
          exact ws_ret <| ex_bl <| (dN [_] (hrt27 _ h))
        case g53 =>
          refine ws_nil ?_
          refine ws_if <| et_cmp <| ex_callK (ok_copy_number R) (hr.mono (by decide)) R.m_copy_number R.F_copy_number.kp R.kb_copy_number_3_down <| ea_cons <| ex_var ⟨rfl, rfl⟩ <| ea_cons <| ex_var ⟨rfl, rfl⟩ <| ea_cons <| ex_var ⟨rfl, rfl⟩ <| ea_nil ⟨rfl, ek_cons <| ex_var ⟨rfl, rfl⟩ <| ek_nil ⟨rfl, ⟨a_history, a_size, z29, a_back, rfl, outU (ob h) (fun z39 h => ex_var ⟨rfl, rfl⟩ <| r_neD (pyO pyI (fun _ => ⟨rfl, rfl⟩)) z39 (some x26) hu (ob h) fun z40 h => ⟨_, rfl, cif h (fun h => ?g41) (fun h => ?g52)⟩) (fun _ h => dX [_] h)⟩⟩⟩
          case g41 =>
            exact ws_ret <| ex_bl <| (dN [_] (hrt27 _ h))
          case g52 =>
            refine ws_nil ?_
            refine ws_if <| et_w <| ew_or <| et_cmp <| ex_callK (ok_copy_moments R) (hr.mono (by decide)) R.m_copy_moments R.F_copy_moments.kp R.kb_copy_moments_3_down <| ea_cons <| ex_var ⟨rfl, rfl⟩ <| ea_cons <| ex_var ⟨rfl, rfl⟩ <| ea_cons <| ex_var ⟨rfl, rfl⟩ <| ea_nil ⟨rfl, ek_cons <| ex_var ⟨rfl, rfl⟩ <| ek_nil ⟨rfl, ⟨a_history, a_size, z29, a_back, rfl, outU (ob h) (fun z42 h => ex_var ⟨rfl, rfl⟩ <| r_neD (pyO (pyL pyI) (fun _ => ⟨rfl, rfl⟩)) z42 (some l36) hu (ob h) fun z43 h => ⟨_, rfl, cif h (fun h => ⟨fun _ => ?g44, fun z => nomatch z⟩) (fun h => ew_or1 <| et_cmp <| ex_var ⟨rfl, rfl⟩ <| ex_gget (hs := fun _ _ => rfl) kyS (lstD (lstD Dat.int)) hu <| ex_var ⟨rfl, rfl⟩ <| ex_var ⟨rfl, rfl⟩ <| ⟨_, s5, z29, _, _, rfl, rfl, List.mem_cons_self, (ob h), fun z45 h => r_notInL (pyL pyI) (a := l36) (xs := z45) (un65 hr) (.inl rfl) (ob h) fun z46 h => ⟨_, rfl, cif h (fun h => ?g47) (fun h => ?g51)⟩⟩)⟩) (fun _ h => dX [_] h)⟩⟩⟩
            case g44 =>
              exact ws_ret <| ex_bl <| (dN [_] (hrt27 _ h))
            case g47 =>
              exact ws_ret <| ex_bl <| (dN [_] (hrt27 _ h))
            case g51 =>
              refine ws_nil ?_
              refine ws_if <| et_cmp <| ex_callK (ok_late_block R) (hr.mono (by decide)) R.m_late_block R.F_late_block.kp R.kb_late_block_3_down <| ea_cons <| ex_var ⟨rfl, rfl⟩ <| ea_cons <| ex_var ⟨rfl, rfl⟩ <| ea_cons <| ex_var ⟨rfl, rfl⟩ <| ea_nil ⟨rfl, ek_cons <| ex_var ⟨rfl, rfl⟩ <| ek_nil ⟨rfl, ⟨a_history, a_size, z29, a_back, rfl, outU (ob h) (fun z48 h => ex_non <| o_notNT (pairD Dat.int Dat.int) (fun _ => ⟨rfl, fun _ z => nomatch z⟩) <| ⟨_, rfl, cif h (fun h => ?g49) (fun h => ?g50)⟩) (fun _ h => dX [_] h)⟩⟩⟩
              case g49 =>
                exact ws_ret <| ex_bl <| (dN [_] (hrt27 _ h))
              case g50 =>
                refine ws_nil ?_
                exact ws_nil ⟨(), ⟨_, _, _, _, _, _, _, rfl, rfl⟩, h⟩
      case g57 =>
        rintro s25 _ _ ⟨d6, d7, d8, d10, d11, d12, d13, rfl, rfl⟩ h
        replace h := finO h
        refine ws_forT <| ei_list <| ex_callF (ok_law_mixes R) (hr.mono (by decide)) R.m_law_mixes R.F_law_mixes R.b_law_mixes <| ea_cons <| ex_var ⟨rfl, rfl⟩ <| ea_cons <| ex_var ⟨rfl, rfl⟩ <| ea_nil <| ⟨a_states, a_size, rfl, outU (ob h) (fun z58 h => ⟨_, rfl, forT Dat.str (xs := z58) (fun (s59 : Unit) τ M' => ∃ d6 d7 d8 d10 d11 d12 d13, [some ((historyD R) a_history), some ((lstD Dat.str) a_states), some (.int a_size), some (.bl a_back), some (.int (z2.length : Int)), some (.raw (.ref q3)), d6, d7, d8, some ((lstD Dat.str) z22), d10, d11, d12, d13] = τ ∧ (q3, .dic (dicD (lstD (lstD Dat.int)) s5)) :: M = M') (ob h) ⟨_, _, _, _, _, _, _, rfl, rfl⟩ (fun _ _ _ _ => trivial) ?g76 ?g77⟩) (fun _ h => dX [_] h)⟩
        case g76 =>
          rintro x60 s59 _ _ N ⟨d6, d7, d8, d10, d11, d12, d13, rfl, rfl⟩ h hrt61
          refine gx_name  <| ?_
          refine ws_if <| et_cmp <| ex_var ⟨rfl, rfl⟩ <| ex_var ⟨rfl, rfl⟩ <| o_notInDic (lstD (lstD Dat.int)) (ds := s5) hu List.mem_cons_self <| ⟨_, rfl, cif h (fun h => ?g74) (fun h => ?g75)⟩
          case g74 =>
            refine ws_if <| et_cmp <| ex_callK (ok_copy_moments R) (hr.mono (by decide)) R.m_copy_moments R.F_copy_moments.kp R.kb_copy_moments_3_down <| ea_cons <| ex_var ⟨rfl, rfl⟩ <| ea_cons <| ex_var ⟨rfl, rfl⟩ <| ea_cons <| ex_var ⟨rfl, rfl⟩ <| ea_nil ⟨rfl, ek_cons <| ex_var ⟨rfl, rfl⟩ <| ek_nil ⟨rfl, ⟨a_history, a_size, x60, a_back, rfl, outU (ob h) (fun z63 h => ex_non <| o_notNT (lstD Dat.int) (fun _ => ⟨rfl, fun _ z => nomatch z⟩) <| ⟨_, rfl, cif h (fun h => ?g64) (fun h => ?g73)⟩) (fun _ h => dX [_] h)⟩⟩⟩
            case g64 =>
              exact ws_ret <| ex_bl <| (dN [_] (hrt61 _ h))
            case g73 =>
              refine ws_nil ?_
              refine ws_if <| et_cmp <| ex_callK (ok_late_block R) (hr.mono (by decide)) R.m_late_block R.F_late_block.kp R.kb_late_block_3_down <| ea_cons <| ex_var ⟨rfl, rfl⟩ <| ea_cons <| ex_var ⟨rfl, rfl⟩ <| ea_cons <| ex_var ⟨rfl, rfl⟩ <| ea_nil ⟨rfl, ek_cons <| ex_var ⟨rfl, rfl⟩ <| ek_nil ⟨rfl, ⟨a_history, a_size, x60, a_back, rfl, outU (ob h) (fun z65 h => ex_ix <| ex_callF (ok_law_early R) (hr.mono (by decide)) R.m_law_early R.F_law_early R.b_law_early <| ea_cons <| ex_var ⟨rfl, rfl⟩ <| ea_cons <| ex_var ⟨rfl, rfl⟩ <| ea_cons <| ex_var ⟨rfl, rfl⟩ <| ea_cons <| ex_var ⟨rfl, rfl⟩ <| ea_nil <| ⟨a_states, a_size, x60, a_back, rfl, outU (ob h) (fun z66 h => ex_int <| i_tup rfl <| r_neD (pyO (py2 pyI pyI) (fun _ => ⟨rfl, rfl⟩)) z65 z66.2 hu (ob h) fun z67 h => ⟨_, rfl, cif h (fun h => ?g68) (fun h => ?g72)⟩) (fun _ h => dX [_] h)⟩) (fun _ h => dX [_] h)⟩⟩⟩
              case g68 =>
                exact ws_ret <| ex_bl <| (dN [_] (hrt61 _ h))
              case g72 =>
                refine ws_nil ?_
                refine ws_if <| et_cmp <| ex_callK (ok_copy_number R) (hr.mono (by decide)) R.m_copy_number R.F_copy_number.kp R.kb_copy_number_3_down <| ea_cons <| ex_var ⟨rfl, rfl⟩ <| ea_cons <| ex_var ⟨rfl, rfl⟩ <| ea_cons <| ex_var ⟨rfl, rfl⟩ <| ea_nil ⟨rfl, ek_cons <| ex_var ⟨rfl, rfl⟩ <| ek_nil ⟨rfl, ⟨a_history, a_size, x60, a_back, rfl, outU (ob h) (fun z69 h => ex_non <| o_notNT Dat.int (fun _ => ⟨rfl, fun _ z => nomatch z⟩) <| ⟨_, rfl, cif h (fun h => ?g70) (fun h => ?g71)⟩) (fun _ h => dX [_] h)⟩⟩⟩
                case g70 =>
                  exact ws_ret <| ex_bl <| (dN [_] (hrt61 _ h))
                case g71 =>
                  refine ws_nil ?_
                  refine ws_nil ?_
                  exact ws_nil ⟨(), ⟨_, _, _, _, _, _, _, rfl, rfl⟩, h⟩
          case g75 =>
            refine ws_nil ?_
            exact ws_nil ⟨(), ⟨_, _, _, _, _, _, _, rfl, rfl⟩, h⟩
        case g77 =>
          rintro s59 _ _ ⟨d6, d7, d8, d10, d11, d12, d13, rfl, rfl⟩ h
          replace h := finO h
          exact ws_ret <| ex_bl <| (dN [_] h)

def S_File_eq (R : Prg K mg) : Spc := fun ds M P E => ∃ (a_self : Str) (a_other : Str), ds = [((fileD R) a_self), ((fileD R) a_other)] ∧ (m_File_eq a_self a_other).Out (fun r => P (.bl r) M) (fun x => E (exE R x) M)
theorem ok_File_eq (R : Prg K mg) : FnD PR w K mg base 1 R.f_File_eq R.d_File_eq P_File_eq (S_File_eq R) := by
  refine fn_d false R.F_File_eq sc_File_eq (fun h => nomatch h) (fun ds M P E ⟨_, _, e, _⟩ => by rw [e]; rfl) fun cdv A outer s H E hr ds M Pd PE h => ?_
  obtain ⟨a_self, a_other, rfl, h⟩ := h
  have hu := hr.units
  refine WS.ends ?_
  exact ws_ret <| exJQ Dat.bl (ob h) (fun _ h => exA h (fun _ h => ex_callB R.n_isinstance PyProof.Rows.Boot.«isinstance» <| ea_cons <| ex_var ⟨rfl, rfl⟩ <| ea_cons <| ex_gref R.mc_File <| ea_nil <| c_isi (k := true) (.own _) (.obj R.L_File) R.s_File_File <| ⟨rfl, true, rfl, h⟩) (fun h => ex_and1 <| ex_cmp <| ex_fld <| ex_var ⟨rfl, rfl⟩ <| ⟨_, ⟨_, R.L_File.cl, R.A_File_row, .inl ⟨_, _, rfl, rfl, rfl⟩⟩, ex_fld <| ex_var ⟨rfl, rfl⟩ <| ⟨_, ⟨_, R.L_File.cl, R.A_File_row, .inl ⟨_, _, rfl, rfl, rfl⟩⟩, o_eqT <| ⟨rfl, (decide (a_self = a_other)), rfl, h⟩⟩⟩)) fun z1 h => (dN [] h)

def S_History_eq (R : Prg K mg) : Spc := fun ds M P E => ∃ (a_self : (Str × List (Int × Str))) (a_other : (Str × List (Int × Str))), ds = [((historyD R) a_self), ((historyD R) a_other)] ∧ (m_History_eq a_self a_other).Out (fun r => P (.bl r) M) (fun x => E (exE R x) M)
theorem ok_History_eq (R : Prg K mg) : FnD PR w K mg base 2 R.f_History_eq R.d_History_eq P_History_eq (S_History_eq R) := by
  refine fn_d false R.F_History_eq sc_History_eq (fun h => nomatch h) (fun ds M P E ⟨_, _, e, _⟩ => by rw [e]; rfl) fun cdv A outer s H E hr ds M Pd PE h => ?_
  obtain ⟨a_self, a_other, rfl, h⟩ := h
  have hu := hr.units
  refine WS.ends ?_
  exact ws_ret <| exJQ Dat.bl (ob h) (fun _ h => exA h (fun _ h => ex_callB R.n_isinstance PyProof.Rows.Boot.«isinstance» <| ea_cons <| ex_var ⟨rfl, rfl⟩ <| ea_cons <| ex_gref R.mc_History <| ea_nil <| c_isi (k := true) (.own _) (.obj R.L_History) R.s_History_History <| ⟨rfl, true, rfl, h⟩) (fun h => exA h (fun _ h => ex_cmp <| ex_fld <| ex_var ⟨rfl, rfl⟩ <| ⟨_, ⟨_, R.L_History.cl, R.A_History_start, .inl ⟨_, _, rfl, rfl, rfl⟩⟩, ex_fld <| ex_var ⟨rfl, rfl⟩ <| ⟨_, ⟨_, R.L_History.cl, R.A_History_start, .inl ⟨_, _, rfl, rfl, rfl⟩⟩, r_eqOwn (ok_File_eq R) (hr.mono (by decide)) R.M_File_eq R.b_File_eq (fun _ => .inl ⟨_, _, rfl, by decide⟩) (fun _ => .obj R.L_File) nf_self (fun _ _ h => ⟨a_self.1, a_other.1, rfl, out_mono h (fun _ h => h) (fun _ h => h.elim)⟩) (ob h) fun z1 h => ⟨rfl, z1, rfl, h⟩⟩⟩) (fun h => ex_and1 <| ex_cmp <| ex_fld <| ex_var ⟨rfl, rfl⟩ <| ⟨_, ⟨_, R.L_History.cl, R.A_History_rows, .inl ⟨_, _, rfl, rfl, rfl⟩⟩, ex_fld <| ex_var ⟨rfl, rfl⟩ <| ⟨_, ⟨_, R.L_History.cl, R.A_History_rows, .inl ⟨_, _, rfl, rfl, rfl⟩⟩, r_eqD (pyL (py2 pyI pyS)) a_self.2 a_other.2 hu (ob h) fun z2 h => ⟨rfl, z2, rfl, h⟩⟩⟩))) fun z3 h => (dN [] h)
end
end Kh

set_option Elab.async false
set_option linter.all false
set_option maxRecDepth 100000
set_option maxHeartbeats 4000000
set_option exponentiation.threshold 20000
namespace Kh
open PySem PySem.Spec L2
section
variable {α β γ σ ρ : Type}
theorem foldR_append {f : σ → α → Res σ} : ∀ {xs ys : List α} {s : σ}, foldR f (xs ++ ys) s = (foldR f xs s).bind (foldR f ys)
  | [], ys, s => rfl
  | x :: xs, ys, s => by
    simp only [List.cons_append, foldR_cons, bind_bind]
    congr 1; funext s'; exact foldR_append
theorem foldR_inv {f : σ → α → Res σ} (I : σ → Prop) : ∀ {xs : List α} {s : σ}, I s → (∀ s x, I s → x ∈ xs → ∃ s', f s x = .ok s' ∧ I s') → ∃ s', foldR f xs s = .ok s' ∧ I s'
  | [], s, h, _ => ⟨s, rfl, h⟩
  | x :: xs, s, h, hf => by
    obtain ⟨s1, e1, h1⟩ := hf s x h List.mem_cons_self
    rw [foldR_cons, e1]
    exact foldR_inv I h1 fun s y hs hy => hf s y hs (List.mem_cons_of_mem _ hy)
theorem rangeL_succ {lo : Int} {n : Nat} : rangeL lo (n + 1) = rangeL lo n ++ [lo + (n : Int)] := by simp [rangeL, List.range_succ]
theorem rangeL_length {lo : Int} {n : Nat} : (rangeL lo n).length = n := by simp [rangeL]
theorem mem_rangeL {lo i : Int} {n : Nat} : i ∈ rangeL lo n ↔ lo ≤ i ∧ i < lo + n := by
  simp only [rangeL, List.mem_map, List.mem_range]
  constructor
  · rintro ⟨k, hk, rfl⟩; omega
  · rintro ⟨h1, h2⟩; exact ⟨(i - lo).toNat, by omega, by omega⟩
/-- a loop over a range: F i is the state ahead of turn i -/
theorem foldR_range {f : σ → Int → Res σ} {lo : Int} (F : Nat → σ) : ∀ {n : Nat}, (∀ i, i < n → f (F i) (lo + (i : Int)) = .ok (F (i + 1))) → foldR f (rangeL lo n) (F 0) = .ok (F n)
  | 0, _ => rfl
  | n + 1, h => by
    rw [rangeL_succ, foldR_append, foldR_range F fun i hi => h i (by omega), bind_ok, foldR_cons, h n (by omega)]
    rfl
theorem foldR_rangeI {f : σ → Int → Res σ} {lo : Int} (I : Nat → σ → Prop) {s0 : σ} (h0 : I 0 s0) : ∀ {n : Nat}, (∀ i s, i < n → I i s → ∃ s', f s (lo + (i : Int)) = .ok s' ∧ I (i + 1) s') → ∃ s', foldR f (rangeL lo n) s0 = .ok s' ∧ I n s'
  | 0, _ => ⟨s0, rfl, h0⟩
  | n + 1, h => by
    obtain ⟨s1, e1, h1⟩ := foldR_rangeI I h0 (n := n) fun i s hi => h i s (by omega)
    obtain ⟨s2, e2, h2⟩ := h n s1 (by omega) h1
    refine ⟨s2, ?_, h2⟩
    rw [rangeL_succ, foldR_append, e1, bind_ok, foldR_cons, e2]
    rfl
/-- a loop that is not left early -/
theorem forR_inv {f : σ → α → Res (Ctl σ ρ)} (I : σ → Prop) : ∀ {xs : List α} {s : σ}, I s → (∀ s x, I s → x ∈ xs → ∃ s', f s x = .ok (.nx s') ∧ I s') → ∃ s', forR f xs s = .ok (.nx s') ∧ I s'
  | [], s, h, _ => ⟨s, rfl, h⟩
  | x :: xs, s, h, hf => by
    obtain ⟨s1, e1, h1⟩ := hf s x h List.mem_cons_self
    rw [forR_cons, e1]
    exact forR_inv I h1 fun s y hs hy => hf s y hs (List.mem_cons_of_mem _ hy)
theorem compL_map {f : α → Res (Option β)} (g : α → β) : ∀ {xs : List α}, (∀ x ∈ xs, f x = .ok (some (g x))) → compL f xs = .ok (xs.map g)
  | [], _ => rfl
  | x :: xs, h => by
    show (f x).bind _ = _
    rw [h x List.mem_cons_self, bind_ok, compL_map g fun y hy => h y (List.mem_cons_of_mem _ hy)]
    rfl
theorem compR_map {f : α → Res (Option β)} (g : α → β) {xs : List α} (hl : xs.length ≤ sizeLine) (h : ∀ x ∈ xs, f x = .ok (some (g x))) : compR f xs = .ok (xs.map g) := by
  unfold compR; rw [if_pos hl, compL_map g h]; rfl
theorem compL_fm {f : α → Res (Option β)} (g : α → Option β) : ∀ {xs : List α}, (∀ x ∈ xs, f x = .ok (g x)) → compL f xs = .ok (xs.filterMap g)
  | [], _ => rfl
  | x :: xs, h => by
    show (f x).bind _ = _
    rw [h x List.mem_cons_self, bind_ok, compL_fm g fun y hy => h y (List.mem_cons_of_mem _ hy), List.filterMap_cons]
    cases g x <;> rfl
theorem compR_fm {f : α → Res (Option β)} (g : α → Option β) {xs : List α} (hl : xs.length ≤ sizeLine) (h : ∀ x ∈ xs, f x = .ok (g x)) : compR f xs = .ok (xs.filterMap g) := by
  unfold compR; rw [if_pos hl, compL_fm g h]; rfl
/-- with a test -/
theorem compR_filter {f : α → Res (Option α)} (p : α → Bool) {xs : List α} (hl : xs.length ≤ sizeLine) (h : ∀ x ∈ xs, f x = .ok (if p x then some x else none)) : compR f xs = .ok (xs.filter p) := by
  rw [compR_fm (fun x => if p x then some x else none) hl h]
  congr 1
  clear h hl
  induction xs with
  | nil => rfl
  | cons x xs ih => rw [List.filterMap_cons, List.filter_cons]; cases p x <;> simp [ih]
theorem peq_ok [DecidableEq α] {ok : α → Bool} {a b : α} (h1 : ok a = true) (h2 : ok b = true) : peq ok a b = .ok (decide (a = b)) := guard_ok ⟨h1, h2⟩
end
theorem sz : sizeLine = 16777216 := sizeLine_eq
theorem lg {i : Int} {n : Nat} (h : i.natAbs < 2 ^ n) (h0 : 0 < n) : i.natAbs.log2 < n := PySem.Flt.log2_lt_of h0 h
theorem pdiv_ok {i j : Int} (h : 0 < j) (hb : j.natAbs < 2 ^ 8000) : pdiv i j = .ok (i / j) := guard_ok ⟨h, Nat.lt_of_lt_of_le (lg hb (by decide)) (by decide)⟩
theorem pmod_ok {i j : Int} (h : 0 < j) : pmod i j = .ok (i % j) := guard_ok h
theorem pmul_ok {i j : Int} (hi : i.natAbs < 2 ^ 8000) (hj : j.natAbs < 2 ^ 8000) : pmul i j = .ok (i * j) := guard_ok (by have := lg hi (by decide); have := lg hj (by decide); omega)
/-- a number far below the greatest -/
def Sm (n : Nat) (i : Int) : Prop := i.natAbs < 2 ^ n
theorem Sm.up {n m : Nat} {i : Int} (h : Sm n i) (hm : n ≤ m) : Sm m i := Nat.lt_of_lt_of_le h (Nat.pow_le_pow_right (by decide) hm)
theorem Sm.of {n : Nat} {i : Int} (h0 : 0 ≤ i) {b : Int} (hb : i ≤ b) (hn : Sm n b) : Sm n i := by unfold Sm at *; omega
theorem pix_nat {α : Type} {xs : List α} {i : Nat} {x : α} (h : xs[i]? = some x) : pix xs (i : Int) = .ok x := by unfold pix; rw [atI_nat h]
theorem small62_of {i : Int} (h0 : 0 ≤ i) (h : i < 1000000000) : small62 i := by unfold small62; omega
def Res.Ok {α : Type} : Res α → (α → Prop) → Prop
  | .ok a, P => P a
  | _, _ => False
theorem ok_out {α : Type} {m : Res α} {P : α → Prop} {E : Er → Prop} (h : m.Ok P) : m.Out P E := by
  cases m with
  | ok a => exact h
  | _ => exact h.elim
section
variable {α β γ σ ρ : Type}
theorem ok_of {m : Res α} {a : α} {P : α → Prop} (e : m = .ok a) (h : P a) : m.Ok P := by rw [e]; exact h
theorem ok_eq {m : Res α} {a : α} (h : m.Ok fun b => b = a) : m = .ok a := by
  cases m with
  | ok b => rw [show b = a from h]
  | err x => exact h.elim
  | bad => exact h.elim
  | all g => exact h.elim
theorem Res.Ok.get {m : Res α} {P : α → Prop} (h : m.Ok P) : ∃ a, m = .ok a ∧ P a := by
  cases m with
  | ok b => exact ⟨b, rfl, h⟩
  | err x => exact h.elim
  | bad => exact h.elim
  | all g => exact h.elim
theorem Res.Ok.imp {m : Res α} {P Q : α → Prop} (h : m.Ok P) (i : ∀ a, P a → Q a) : m.Ok Q := by
  obtain ⟨a, e, q⟩ := h.get; rw [e]; exact i a q
theorem bi {m : Res α} {k : α → Res β} {Q : α → Prop} {P : β → Prop} (h : m.Ok Q) (hk : ∀ a, Q a → (k a).Ok P) : (m.bind k).Ok P := by
  obtain ⟨a, e, q⟩ := h.get; rw [e]; exact hk a q
theorem be {m : Res α} {k : α → Res β} {a : α} {P : β → Prop} (e : m = .ok a) (hk : (k a).Ok P) : (m.bind k).Ok P := by rw [e]; exact hk
/-- a test that is told -/
theorem cT {c : Bool} {a b : Res α} {P : α → Prop} (e : c = true) (h : a.Ok P) : (cond c a b).Ok P := by rw [e]; exact h
theorem cF {c : Bool} {a b : Res α} {P : α → Prop} (e : c = false) (h : b.Ok P) : (cond c a b).Ok P := by rw [e]; exact h
theorem cB {c : Bool} {a b : Res α} {P : α → Prop} (h1 : c = true → a.Ok P) (h2 : c = false → b.Ok P) : (cond c a b).Ok P := by
  cases c with
  | true => exact h1 rfl
  | false => exact h2 rfl
theorem cNF {p : Prop} [Decidable p] {a b : Res α} {P : α → Prop} (hp : p) (h : b.Ok P) : (cond (!decide p) a b).Ok P := cF (by rw [decide_eq_true hp]; rfl) h
theorem bg {c : Prop} [Decidable c] {x : α} {k : α → Res β} {P : β → Prop} (hc : c) (h : (k x).Ok P) : ((guard c x).bind k).Ok P := be (guard_ok hc) h
theorem forO {f : σ → α → Res (Ctl σ ρ)} {k : σ → Res β} {r : ρ → Res β} {xs : List α} {s : σ} {P : β → Prop} (I : σ → Prop) (h0 : I s) (step : ∀ s x, I s → x ∈ xs → (f s x).Ok fun c => ∃ s', c = .nx s' ∧ I s') (fin : ∀ s, I s → (k s).Ok P) : ((forR f xs s).bind (Ctl.fin k r)).Ok P := by
  obtain ⟨s', e, h⟩ := forR_inv I h0 fun s x hs hx => by
    obtain ⟨c, e, s', rfl, h⟩ := (step s x hs hx).get
    exact ⟨s', e, h⟩
  rw [e]; exact fin s' h
theorem foldO {f : σ → α → Res σ} {k : σ → Res β} {xs : List α} {s : σ} {P : β → Prop} (I : σ → Prop) (h0 : I s) (step : ∀ s x, I s → x ∈ xs → (f s x).Ok I) (fin : ∀ s, I s → (k s).Ok P) : ((foldR f xs s).bind k).Ok P := by
  obtain ⟨s', e, h⟩ := foldR_inv I h0 fun s x hs hx => (step s x hs hx).get
  rw [e]; exact fin s' h
end
theorem pix_of {α : Type} {xs : List α} {i n : Int} (h0 : 0 ≤ i) (h1 : i < n) {P : α → Prop} (hp : ∀ x ∈ xs, P x) (hn : n = (xs.length : Int) := by rfl) : (pix xs i).Ok P := by
  obtain ⟨k, rfl⟩ := Int.eq_ofNat_of_zero_le h0
  have hk : k < xs.length := by omega
  exact ok_of (pix_nat (List.getElem?_eq_getElem hk)) (hp _ (List.getElem_mem hk))
abbrev mk (l : List Nat) : Str := ⟨l.toArray⟩
theorem signs_mk {l : List Nat} : signsL (mk l) = l := rfl
theorem mk_signs (z : Str) : mk (signsL z) = z := TL.mk_tl z
theorem s_ext {x y : Str} (h : signsL x = signsL y) : x = y := TL.ext_tl h
theorem s_len (z : Str) : z.length = (signsL z).length := TL.len_tl z
theorem mk_len {l : List Nat} : (mk l).length = l.length := s_len _
theorem mk_inj {l m : List Nat} : (mk l = mk m) ↔ l = m := ⟨fun h => by have := congrArg signsL h; exact this, fun h => by rw [h]⟩
theorem pcat_mk {a b : Str} (h : a.length + b.length ≤ 1000000) : pcat a b = .ok (mk (signsL a ++ signsL b)) := by
  unfold pcat
  rw [guard_ok (by rw [sz]; omega)]
  congr 1
  exact s_ext (TL.tl_append a b)
theorem pixS_mk {z : Str} {i : Nat} {c : Nat} (hl : z.length ≤ 1000000) (h : (signsL z)[i]? = some c) : pixS z (i : Int) = .ok c := by
  unfold pixS
  rw [if_pos (by rw [sz]; omega), pix_nat h]
theorem plenS_mk {z : Str} (hl : z.length ≤ 1000000) : plenS z = .ok ((signsL z).length : Int) := by
  unfold plenS
  rw [guard_ok (by rw [sz]; omega), s_len]
theorem pslS_mk {z : Str} {lo hi : Option Int} (hl : z.length ≤ 1000000) : pslS z lo hi = .ok (mk (cutD (signsL z) lo hi)) := by
  unfold pslS
  rw [guard_ok (by rw [sz]; omega)]
  rfl
theorem cutD_nat {α : Type} {l : List α} {i j : Nat} : cutD l (some (i : Int)) (some (j : Int)) = (l.drop i).take (j - i) := by
  unfold cutD
  rw [HT.sIx_nat, HT.sIx_nat]
  by_cases h : i ≤ l.length
  · rw [Nat.min_eq_left h]
    by_cases h2 : j ≤ l.length
    · rw [Nat.min_eq_left h2]
    · have e : min j l.length = l.length := Nat.min_eq_right (by omega)
      rw [e, List.take_of_length_le (by rw [List.length_drop]; omega), List.take_of_length_le (by rw [List.length_drop]; omega)]
  · have e : min i l.length = l.length := Nat.min_eq_right (by omega)
    rw [e, List.drop_length, List.drop_eq_nil_of_le (by omega)]; simp
theorem cutD_to {α : Type} {l : List α} {j : Nat} : cutD l none (some (j : Int)) = l.take j := by
  unfold cutD
  rw [HT.sIx_none, HT.sIx_nat, List.drop_zero, Nat.sub_zero]
  by_cases h2 : j ≤ l.length
  · rw [Nat.min_eq_left h2]
  · rw [Nat.min_eq_right (by omega), List.take_of_length_le (by omega), List.take_of_length_le (by omega)]
theorem cutD_from {α : Type} {l : List α} {i : Nat} : cutD l (some (i : Int)) none = l.drop i := by
  unfold cutD
  rw [HT.sIx_none, HT.sIx_nat]
  by_cases h : i ≤ l.length
  · rw [Nat.min_eq_left h, List.take_of_length_le (by rw [List.length_drop]; omega)]
  · have e : min i l.length = l.length := Nat.min_eq_right (by omega)
    rw [e, List.drop_length, List.drop_eq_nil_of_le (by omega)]; simp
/-- a dot becomes a nought -/
def fil (c : Nat) : Nat := if c = 46 then 48 else c
theorem repl1 : ∀ l : List Nat, StrLaws.replL [46] [48] l = l.map fil
  | [] => StrLaws.replL_nil
  | c :: r => by
    by_cases h : c = 46
    · subst h
      rw [StrLaws.replL_hit (by simp) (by rfl)]
      show [48] ++ StrLaws.replL [46] [48] r = _
      rw [repl1 r]; rfl
    · rw [StrLaws.replL_miss (by simpa using h), repl1 r]
      simp [fil, h]
theorem prepl_mk {z : Str} (h : z.length ≤ 1000000) : preplS z "." "0" = .ok (mk ((signsL z).map fil)) := by
  unfold preplS
  have e1 : (Str.ofString "0").length = 1 := by rfl
  rw [guard_ok (by rw [e1]; omega)]
  congr 1
  apply s_ext
  show (Txt.replace z "." "0").cps.toList = _
  rw [StrLaws.replace_list (by show 1 ≤ (Str.ofString ".").length; decide)]
  exact repl1 _
theorem joinL_nil : ∀ (ys : List (List Nat)), TL.joinL [] ys = ys.flatten
  | [] => rfl
  | [y] => by simp [TL.joinL]
  | y :: z :: r => by show y ++ ([] ++ TL.joinL [] (z :: r)) = _; rw [joinL_nil (z :: r)]; simp
theorem pjoin_mk {ys : List Str} (h : (ys.map (·.length)).sum ≤ 1000000) : pjoin "" ys = .ok (mk (ys.map signsL).flatten) := by
  unfold pjoin
  have e1 : (Str.ofString "").length = 0 := by rfl
  rw [guard_ok (by rw [e1]; omega)]
  congr 1
  apply s_ext
  rw [TL.join_eq]
  refine (TL.tl_join _ _).trans ?_
  exact joinL_nil _
def okC (c : Nat) : Bool := c == 46 || c == 48 || (decide (97 ≤ c) && decide (c ≤ 122))
theorem cells_list : pcat (".0" : Str) ("abcdefghijklmnopqrstuvwxyz" : Str) = .ok (mk [46, 48, 97, 98, 99, 100, 101, 102, 103, 104, 105, 106, 107, 108, 109, 110, 111, 112, 113, 114, 115, 116, 117, 118, 119, 120, 121, 122]) := by
  rw [pcat_mk (by decide)]; rfl
theorem okC_in {c : Nat} : decide (c ∈ [46, 48, 97, 98, 99, 100, 101, 102, 103, 104, 105, 106, 107, 108, 109, 110, 111, 112, 113, 114, 115, 116, 117, 118, 119, 120, 121, 122]) = okC c := by
  rw [Bool.eq_iff_iff]
  simp only [okC, decide_eq_true_eq, List.mem_cons, List.not_mem_nil, or_false, Bool.or_eq_true, Bool.and_eq_true, beq_iff_eq]
  omega
theorem isE_filter {α : Type} {p : α → Bool} : ∀ {l : List α}, (l.filter p).isEmpty = l.all fun x => !p x
  | [] => rfl
  | x :: l => by
    rw [List.filter_cons, List.all_cons]
    cases h : p x
    · simp [isE_filter]
    · simp
theorem are_cells_val {z : Str} (hl : z.length ≤ 1000000) : m_are_cells z = .ok ((signsL z).all okC) := by
  unfold m_are_cells
  rw [compR_filter (fun c => !okC c) (by rw [← s_len, sz]; omega) (fun c _ => by rw [cells_list, bind_ok, signs_mk, okC_in]; cases okC c <;> rfl)]
  rw [bind_ok, andR_ok, cond_true, isE_filter]
  simp
abbrev CellS (l : List Nat) : Prop := l.all okC = true
theorem file_ok {l : List Nat} (hl : l.length ≤ 1000000) (h : CellS l) : m_File_make (mk l) = .ok (mk l) := by
  unfold m_File_make
  rw [are_cells_val (by rw [mk_len]; exact hl), signs_mk, h]; rfl
section
variable {α β γ σ ρ : Type}
theorem foldIO {f : σ → Int → Res σ} {k : σ → Res β} {lo : Int} {n : Nat} {s : σ} {P : β → Prop} (I : Nat → σ → Prop) (h0 : I 0 s) (step : ∀ (i : Nat) s, i < n → I i s → (f s (lo + (i : Int))).Ok (I (i + 1))) (fin : ∀ s, I n s → (k s).Ok P) : ((foldR f (rangeL lo n) s).bind k).Ok P := by
  obtain ⟨s', e, h⟩ := foldR_rangeI I h0 (n := n) fun i s hi hs => (step i s hi hs).get
  rw [e]; exact fin s' h
end
theorem chS_sum {α : Type} (f : α → Nat) : ∀ xs : List α, ((xs.map fun x => chS (f x)).map (·.length)).sum = xs.length
  | [] => rfl
  | x :: xs => by rw [List.map_cons, List.map_cons, List.sum_cons, chS_sum f xs, List.length_cons]; show 1 + _ = _; omega
theorem chS_flat {α : Type} (f : α → Nat) : ∀ xs : List α, ((xs.map fun x => chS (f x)).map signsL).flatten = xs.map f
  | [] => rfl
  | x :: xs => by rw [List.map_cons, List.map_cons, List.flatten_cons, chS_flat f xs, List.map_cons]; rfl
theorem join_chS {α : Type} {f : α → Nat} {xs : List α} (h : xs.length ≤ 1000000) : pjoin ("" : Str) (xs.map fun x => chS (f x)) = .ok (mk (xs.map f)) := by
  rw [pjoin_mk (by rw [chS_sum]; exact h), chS_flat]
section
variable {α β σ ρ : Type} {E E' : Er → Prop}
end
section
variable {α β σ ρ : Type} {E E' : Er → Prop}
end
def blk (n : Nat) (l : List Nat) : List (List Nat) := (List.range ((l.length + n - 1) / n)).map fun i => (l.drop (i * n)).take n
theorem blk_flat_to {n : Nat} {l : List Nat} : ∀ k : Nat, ((List.range k).map fun i => (l.drop (i * n)).take n).flatten = l.take (k * n)
  | 0 => by simp
  | k + 1 => by
    rw [List.range_succ, List.map_append, List.flatten_append, blk_flat_to k, Nat.succ_mul, List.take_add]
    simp
theorem blk_flat {n : Nat} (h : 1 ≤ n) (l : List Nat) : (blk n l).flatten = l := by
  unfold blk
  rw [blk_flat_to, List.take_of_length_le]
  have := Nat.div_add_mod (l.length + n - 1) n
  have h2 := Nat.mod_lt (l.length + n - 1) (show n > 0 by omega)
  rw [Nat.mul_comm n] at this
  omega
theorem blk_count {n : Nat} (h : 1 ≤ n) (l : List Nat) : (blk n l).length ≤ l.length := by
  unfold blk
  rw [List.length_map, List.length_range]
  by_cases e : l.length = 0
  · rw [e, Nat.div_eq_of_lt (by omega)]; omega
  · refine Nat.div_le_of_le_mul ?_
    obtain ⟨m, hm⟩ : ∃ m, l.length = m + 1 := ⟨l.length - 1, by omega⟩
    rw [hm, Nat.mul_succ]
    have : m ≤ n * m := Nat.le_mul_of_pos_left m (by omega)
    omega
def SzOk (n : Int) : Prop := 1 ≤ n ∧ n < 1000000000000000000000000000000000000000000000000
theorem rng3B_of {m k : Nat} (hm : m ≤ 1000000) (h : SzOk (k : Int)) : rng3B (0 : Int) (m : Int) (k : Int) := by
  have hb : (k : Int).natAbs < 2 ^ 200 := by
    have e : (2 : Nat) ^ 200 = 1606938044258990275541962092341162602522202993782792835301376 := by decide +kernel
    have := h.2
    simp only [Int.natAbs_natCast]; omega
  exact ⟨⟨small62_of (by omega) (by omega), small62_of (by omega) (by omega)⟩, by have := h.1; omega, Nat.lt_of_lt_of_le (lg hb (by decide)) (by decide)⟩
theorem blocks_val {z : Str} {n : Int} (hn : SzOk n) (hl : z.length ≤ 1000000) : m_blocks_of z n = .ok ((blk n.toNat (signsL z)).map mk) := by
  obtain ⟨h1, h2⟩ := hn
  obtain ⟨k, rfl⟩ := Int.eq_ofNat_of_zero_le (show 0 ≤ n by omega)
  unfold m_blocks_of
  rw [s_len] at hl
  have hg : rng3B (0 : Int) ((signsL z).length : Int) (k : Int) := rng3B_of hl ⟨h1, h2⟩
  rw [plenS_mk (by rw [s_len]; exact hl), bind_ok, guard_ok hg, bind_ok]
  have hc : (((signsL z).length : Int) - 0 + (k : Int) - 1) / (k : Int) = ((((signsL z).length + k - 1) / k : Nat) : Int) := by
    rw [Int.natCast_ediv]; congr 1; omega
  have hcnt := blk_count (n := k) (by omega) (signsL z)
  unfold blk at hcnt
  rw [List.length_map, List.length_range] at hcnt
  rw [hc, Int.toNat_natCast, compR_map (fun x => mk (((signsL z).drop x.toNat).take k))]
  · rw [bind_ok]
    congr 1
    unfold rangeC blk
    rw [List.map_map, List.map_map]
    refine List.map_congr_left fun i _ => ?_
    show mk _ = mk _
    have e : (0 + (i : Int) * (k : Int)).toNat = i * k := by rw [Int.zero_add, ← Int.natCast_mul, Int.toNat_natCast]
    rw [e, Int.toNat_natCast]
  · unfold rangeC
    rw [List.length_map, List.length_range, sz]; omega
  · intro x hx
    unfold rangeC at hx
    obtain ⟨i, _, rfl⟩ := List.mem_map.mp hx
    have e : (0 + (i : Int) * (k : Int)) = ((i * k : Nat) : Int) := by rw [Int.zero_add, ← Int.natCast_mul]
    have e2 : ((i * k : Nat) : Int) + (k : Int) = ((i * k + k : Nat) : Int) := by omega
    rw [e, e2, pslS_mk (by rw [s_len]; exact hl), bind_ok, cutD_nat, Int.toNat_natCast, Nat.add_sub_cancel_left]
theorem blk_nil {n : Nat} (hn : 1 ≤ n) : blk n [] = [] := by
  unfold blk
  rw [List.length_nil, Nat.div_eq_of_lt (by omega)]; rfl
theorem blk_cons {n : Nat} (hn : 1 ≤ n) {l : List Nat} (h : l ≠ []) : blk n l = l.take n :: blk n (l.drop n) := by
  have hl : 1 ≤ l.length := by cases l with | nil => exact absurd rfl h | cons _ _ => simp
  have e : (l.length + n - 1) / n = ((l.drop n).length + n - 1) / n + 1 := by
    rw [List.length_drop]
    by_cases c : l.length ≤ n
    · have e1 : l.length - n + n - 1 = n - 1 := by omega
      rw [e1, Nat.div_eq_of_lt (show n - 1 < n by omega)]
      have e2 : l.length + n - 1 = (l.length - 1) + n := by omega
      rw [e2, Nat.add_div_right _ (by omega), Nat.div_eq_of_lt (by omega)]
    · have e2 : l.length + n - 1 = (l.length - n + n - 1) + n := by omega
      rw [e2, Nat.add_div_right _ (by omega)]
  unfold blk
  rw [e, List.range_succ_eq_map, List.map_cons, List.map_map]
  congr 1
  · simp
  · refine List.map_congr_left fun i _ => ?_
    show (l.drop ((i + 1) * n)).take n = ((l.drop n).drop (i * n)).take n
    rw [List.drop_drop]
    congr 2
    rw [Nat.succ_mul, Nat.add_comm]
def Spr (p : List Int) : Prop := ∃ a : Int, p = [a]
theorem sip_o {p : List Int} {many : Int} (hp : Spr p) (h0 : 0 < many) (hm : Sm 8000 many) : (m_law_sip p many).Ok fun r => 0 ≤ r.1 ∧ r.1 < many ∧ Spr r.2 := by
  obtain ⟨a, rfl⟩ := hp
  unfold m_law_sip
  refine be (a := a) rfl ?_
  refine be (pmod_ok h0) ?_
  refine be (a := a) rfl ?_
  refine be (pdiv_ok h0 hm) ?_
  refine be (a := [a / many]) rfl ?_
  exact ⟨Int.emod_nonneg _ (by omega), Int.emod_lt_of_pos _ h0, _, rfl⟩
/-- many written or bounded -/
theorem sip_s {p : List Int} {many : Int} (hp : Spr p) (h0 : 0 < many) (hm : many ≤ 10 ^ 60) : (m_law_sip p many).Ok fun r => 0 ≤ r.1 ∧ r.1 < many ∧ Spr r.2 :=
  sip_o hp h0 (Sm.of (by omega) hm (by unfold Sm; decide +kernel))
theorem spring_o {ns : List Int} {at_ : Int} (h0 : 0 ≤ at_) : (m_law_spring ns at_).Ok Spr := by
  unfold m_law_spring
  refine bi (Q := fun _ => True) (cB (fun h => ?_) fun _ => trivial) fun z _ => ?_
  · have h := of_decide_eq_true h
    obtain ⟨k, rfl⟩ := Int.eq_ofNat_of_zero_le h0
    have hk : k < ns.length := by omega
    exact be (pix_nat (List.getElem?_eq_getElem hk)) trivial
  refine cB (fun _ => ?_) fun _ => ?_
  · refine be (pmul_ok (by decide +kernel) (by decide +kernel)) ?_
    refine be (pmul_ok (by decide +kernel) (by decide +kernel)) ?_
    refine be (pmul_ok (by decide +kernel) (by decide +kernel)) ?_
    refine be (pmul_ok (by decide +kernel) (by decide +kernel)) ?_
    refine be (pmod_ok (by decide +kernel)) ?_
    exact ⟨_, rfl⟩
  · have sm : ∀ x m : Int, 0 < m → m < 2 ^ 62 → (x % m).natAbs < 2 ^ 8000 := fun x m h1 h2 => by
      have g1 := Int.emod_nonneg x (by omega : m ≠ 0)
      have g2 := Int.emod_lt_of_pos x h1
      exact (Sm.of (n := 62) g1 (b := 2 ^ 62 - 1) (by omega) (by unfold Sm; decide)).up (by decide)
    refine foldO (fun s => 0 ≤ s.2.1 ∧ s.2.1 < 2147483497) ⟨Int.emod_nonneg _ (by decide), Int.emod_lt_of_pos _ (by decide)⟩ (fun s x hs _ => ?_) fun s _ => ⟨_, rfl⟩
    have hb : s.2.1.natAbs < 2 ^ 8000 := (Sm.of (n := 62) hs.1 (b := 2 ^ 62 - 1) (by omega) (by unfold Sm; decide)).up (by decide)
    refine be (pmul_ok hb hb) ?_
    refine be (pmul_ok (sm _ _ (by decide) (by decide)) (sm _ _ (by decide) (by decide))) ?_
    exact ⟨Int.emod_nonneg _ (by decide), Int.emod_lt_of_pos _ (by decide)⟩
/-- a comprehension that draws: as many as there are turns -/
theorem compSN {α β σ : Type} {g : σ → α → Res (Option β × σ)} (I : σ → Prop) (Q : β → Prop) {xs : List α} {s : σ} (hl : xs.length ≤ sizeLine) (h0 : I s) (step : ∀ s x, I s → x ∈ xs → (g s x).Ok fun r => (∃ y, r.1 = some y ∧ Q y) ∧ I r.2) : (compS g xs s).Ok fun r => r.1.length = xs.length ∧ (∀ y ∈ r.1, Q y) ∧ I r.2 := by
  unfold compS
  rw [if_pos hl]
  clear hl
  have h : (compSL g xs s).Ok fun r => r.1.length = xs.length ∧ (∀ y ∈ r.1, Q y) ∧ I r.2 := by
    induction xs generalizing s with
    | nil => exact ⟨rfl, (fun y hy => by simp at hy), h0⟩
    | cons x xs ih =>
      show ((g s x).bind _).Ok _
      refine bi (step s x h0 List.mem_cons_self) fun o ⟨⟨y, o1, oy⟩, o2⟩ => ?_
      refine bi (ih o2 fun s y hs hy => step s y hs (List.mem_cons_of_mem _ hy)) fun r ⟨r1, r2, r3⟩ => ?_
      obtain ⟨o, s'⟩ := o
      have o1 : o = some y := o1
      subst o1
      exact ⟨by simp [r1], (fun z hz => by
          have hz : z ∈ y :: r.1 := by simpa using hz
          rcases List.mem_cons.mp hz with e | e
          · rw [e]; exact oy
          · exact r2 z e), r3⟩
  obtain ⟨a, e, q⟩ := h.get
  rw [e]; exact q
/-- a sign of a content -/
def okT (c : Nat) : Bool := c == 48 || (decide (97 ≤ c) && decide (c ≤ 122))
abbrev TxtS (l : List Nat) : Prop := l.all okT = true
def rowB (ok : Nat → Bool) (z : Str) : Bool := decide (0 < (signsL z).length) && decide ((signsL z).length ≤ 30) && (signsL z).all ok
theorem cells_body {ok : Nat → Bool} {tab : List Str} {p : List Int} {len : Int} (hn : (tab.length : Int) = 4) (ht : ∀ z ∈ tab, rowB ok z = true) (hp : Spr p) (h0 : 0 ≤ len) (hm : len ≤ 1000) :
    ((m_law_sip p (4 : Int)).bind fun z1 => (pix tab z1.1).bind fun z2 => (guard (small62 len) ()).bind fun _ => (compS (β := Nat) (fun (s5 : (List Int)) (x4 : Int) => (plenS z2).bind fun z6 => (m_law_sip s5 z6).bind fun z7 => (pixS z2 z7.1).bind fun z8 => Res.ok (some z8, z7.2)) (rangeL 0 (Int.toNat len)) z1.2).bind fun l9 => (pjoin ("" : Str) (l9.1.map chS)).bind fun z10 => Res.ok (z10, l9.2)).Ok
      fun r => ∃ l : List Nat, r.1 = mk l ∧ (l.length : Int) = len ∧ l.all ok = true ∧ Spr r.2 := by
  refine bi (sip_s hp (by decide) (by decide +kernel)) fun z1 ⟨a1, a2, hp⟩ => ?_
  refine bi (pix_of a1 (n := (tab.length : Int)) (by omega) (P := fun z => rowB ok z = true) ht) fun z2 hz => ?_
  simp only [rowB, Bool.and_eq_true, decide_eq_true_eq] at hz
  obtain ⟨⟨z21, z22⟩, z23⟩ := hz
  have hzl : z2.length ≤ 1000000 := by rw [s_len]; omega
  refine bg (small62_of h0 (by omega)) ?_
  refine bi (compSN Spr (fun c => ok c = true) (by rw [rangeL_length, sz]; omega) hp (fun s x hs _ => ?_)) fun r ⟨r1, r2, r3⟩ => ?_
  · refine be (plenS_mk hzl) ?_
    refine bi (sip_s hs (by omega) (by omega)) fun z7 ⟨c1, c2, hs⟩ => ?_
    obtain ⟨k, hk⟩ := Int.eq_ofNat_of_zero_le c1
    have hk2 : k < (signsL z2).length := by omega
    rw [hk]
    refine be (pixS_mk hzl (List.getElem?_eq_getElem hk2)) ?_
    exact ⟨⟨_, rfl, List.all_eq_true.mp z23 _ (List.getElem_mem hk2)⟩, hs⟩
  · rw [rangeL_length] at r1
    have hj := join_chS (f := id) (xs := r.1) (by omega)
    rw [List.map_id] at hj
    refine be hj ?_
    exact ⟨r.1, rfl, by omega, List.all_eq_true.mpr r2, r3⟩
theorem cells_o {p : List Int} {len : Int} (hp : Spr p) (h0 : 0 ≤ len) (hm : len ≤ 1000) : (m_law_cells p len).Ok fun r => ∃ l : List Nat, r.1 = mk l ∧ (l.length : Int) = len ∧ CellS l ∧ Spr r.2 :=
  cells_body (ok := okC) rfl (by decide +kernel) hp h0 hm
theorem text_o {p : List Int} {len : Int} (hp : Spr p) (h0 : 0 ≤ len) (hm : len ≤ 1000) : (m_law_text p len).Ok fun r => ∃ l : List Nat, r.1 = mk l ∧ (l.length : Int) = len ∧ TxtS l ∧ Spr r.2 :=
  cells_body (ok := okT) rfl (by decide +kernel) hp h0 hm
/-- writes: where, what -/
abbrev Wr := Nat × List Nat
def wrV (w : Wr) : Int × Str := ((w.1 : Int), mk w.2)
/-- a write that fits n cells -/
structure WrOk (n : Nat) (w : Wr) : Prop where
  t : TxtS w.2
  e : w.2 ≠ []
  l : w.1 + w.2.length ≤ n
theorem writes_o {p : List Int} {n : Nat} {most : Int} (hp : Spr p) (hn : n ≤ 1000) (h0 : 0 ≤ most) (hm : most ≤ 1000) : (m_law_writes p (n : Int) most).Ok fun r => ∃ ws : List Wr, r.1 = ws.map wrV ∧ (ws.length : Int) ≤ most ∧ (∀ w ∈ ws, WrOk n w) ∧ Spr r.2 := by
  unfold m_law_writes
  refine bi (sip_s hp (by omega) (by omega)) fun z2 ⟨a1, a2, hp⟩ => ?_
  have hk : ∃ k : Int, (if decide ((0 : Int) < (n : Int)) = true then (1 : Int) else 0) = k ∧ (k = 0 ∨ k = 1) ∧ (k = 1 → 0 < n) := by
    by_cases h : (0 : Int) < (n : Int)
    · exact ⟨1, by rw [decide_eq_true h]; rfl, .inr rfl, fun _ => by omega⟩
    · exact ⟨0, by rw [decide_eq_false h]; rfl, .inl rfl, fun h => by omega⟩
  obtain ⟨k, ek, k1, k2⟩ := hk
  rw [ek]
  refine be (pmul_ok (Sm.of a1 (b := 10 ^ 60) (by omega) (by unfold Sm; decide +kernel)) (by rcases k1 with rfl | rfl <;> decide +kernel)) ?_
  have hz : 0 ≤ z2.1 * k ∧ z2.1 * k ≤ most ∧ (0 < z2.1 * k → k = 1) := by
    rcases k1 with rfl | rfl
    · refine ⟨by omega, by omega, by omega⟩
    · refine ⟨by omega, by omega, fun _ => rfl⟩
  obtain ⟨m, hm'⟩ : ∃ m, m = z2.1 * k := ⟨_, rfl⟩
  rw [← hm'] at hz ⊢
  rw [guard_ok (show small62 m from small62_of hz.1 (by omega)), bind_ok]
  refine foldIO (fun i s => ∃ ws : List Wr, s.1 = ws.map wrV ∧ ws.length = i ∧ (∀ w ∈ ws, WrOk n w) ∧ Spr s.2) ⟨[], rfl, rfl, (fun w h => by simp at h), hp⟩ ?_ ?_
  · rintro i s hi ⟨ws, e1, hl, hw, hp⟩
    have hn0 : 0 < n := k2 (hz.2.2 (by omega))
    refine bi (sip_s hp (by omega) (by omega)) fun z8 ⟨b1, b2, hp⟩ => ?_
    refine bi (sip_s hp (by decide) (by decide +kernel)) fun z9 ⟨c1, c2, hp⟩ => ?_
    refine bi (pix_of c1 c2 (P := fun x => 1 ≤ x ∧ x ≤ 9) (by decide)) fun z10 hz10 => ?_
    refine bi (sip_s hp (by omega) (by omega)) fun z11 ⟨d1, d2, hp⟩ => ?_
    refine bi (text_o hp (by omega) (by omega)) fun z13 ⟨t, t1, t2, t3, hp⟩ => ?_
    rw [t1, e1]
    refine be (a := ws.map wrV ++ [(z8.1, mk t)]) (guard_ok (by rw [List.length_map, sz]; omega)) ?_
    obtain ⟨b, hb⟩ := Int.eq_ofNat_of_zero_le b1
    refine ⟨ws ++ [(b, t)], by rw [hb]; simp [wrV], by simp [hl], fun w hww => ?_, hp⟩
    rcases List.mem_append.mp hww with h | h
    · exact hw w h
    · rw [List.mem_singleton.mp h]
      refine ⟨t3, fun e => ?_, ?_⟩
      · have e : t = [] := e
        rw [e] at t2; simp at t2; omega
      · show b + t.length ≤ n; omega
  · rintro s ⟨ws, e1, hl, hw, hp⟩
    exact ⟨ws, e1, by omega, hw, hp⟩
theorem text_list : pcat ("0" : Str) ("abcdefghijklmnopqrstuvwxyz" : Str) = .ok (mk [48, 97, 98, 99, 100, 101, 102, 103, 104, 105, 106, 107, 108, 109, 110, 111, 112, 113, 114, 115, 116, 117, 118, 119, 120, 121, 122]) := by
  rw [pcat_mk (by decide)]; rfl
theorem okT_in {c : Nat} : decide (c ∈ [48, 97, 98, 99, 100, 101, 102, 103, 104, 105, 106, 107, 108, 109, 110, 111, 112, 113, 114, 115, 116, 117, 118, 119, 120, 121, 122]) = okT c := by
  rw [Bool.eq_iff_iff]
  simp only [okT, decide_eq_true_eq, List.mem_cons, List.not_mem_nil, or_false, Bool.or_eq_true, Bool.and_eq_true, beq_iff_eq]
  omega
theorem is_content_val {z : Str} (hl : z.length ≤ 1000000) : m_is_content z = .ok ((signsL z).all okT) := by
  unfold m_is_content
  rw [compR_filter (fun c => !okT c) (by rw [← s_len, sz]; omega) (fun c _ => by rw [text_list, bind_ok, signs_mk, okT_in]; cases okT c <;> rfl)]
  rw [bind_ok, andR_ok, cond_true, isE_filter]
  simp
theorem is_write_val {n : Nat} {w : Wr} (h : WrOk n w) (hn : n ≤ 100000) : m_is_write (wrV w) (n : Int) = .ok true := by
  have hl : (mk w.2).length ≤ 1000000 := by have := h.l; rw [mk_len]; omega
  unfold m_is_write
  rw [decide_eq_true rfl, Bool.not_true, cond_false, show m_is_whole (wrV w).1 = .ok true from rfl, bind_ok, cond_true, show (wrV w).2 = mk w.2 from rfl, is_content_val hl, bind_ok, signs_mk, h.t, cond_true, decide_eq_true (show (0 : Int) ≤ (wrV w).1 by show (0 : Int) ≤ (w.1 : Int); omega), andR_ok, cond_true,
    decide_eq_false (fun e => h.e (by have := congrArg signsL e; rw [signs_mk] at this; rw [this]; rfl)), plenS_mk hl, bind_ok, signs_mk]
  rw [decide_eq_true (show (wrV w).1 + ((w.2).length : Int) ≤ (n : Int) by show (w.1 : Int) + _ ≤ _; have := h.l; omega)]
  rfl
theorem check_write_val {n : Nat} {w : Wr} (h : WrOk n w) (hn : n ≤ 100000) : m_check_write (wrV w) (n : Int) = .ok () := by
  unfold m_check_write
  rw [is_write_val h hn]; rfl
theorem file_len_val {l : List Nat} (hl : l.length ≤ 100000) : plenO (m_File_len (mk l)) = .ok (l.length : Int) := by
  unfold plenO m_File_len
  rw [plenS_mk (by rw [mk_len]; omega), signs_mk, bind_ok, ne_ok, bind_ok]
  have h1 : 0 ≤ (l.length : Int) ∧ (l.length : Int) < 2 ^ 63 := ⟨by omega, by omega⟩
  exact guard_ok h1
/-- a file and writes that fit it -/
structure HistOk (l : List Nat) (ws : List Wr) : Prop where
  c : CellS l
  n : l.length ≤ 10000
  w : ∀ w ∈ ws, WrOk l.length w
  m : ws.length ≤ 10000
abbrev hisV (l : List Nat) (ws : List Wr) : Str × List (Int × Str) := (mk l, ws.map wrV)
theorem foldR_unit {α : Type} {f : Unit → α → Res Unit} : ∀ {xs : List α}, (∀ x ∈ xs, f () x = .ok ()) → foldR f xs () = .ok ()
  | [], _ => rfl
  | x :: xs, h => by rw [foldR_cons, h x List.mem_cons_self, bind_ok]; exact foldR_unit fun y hy => h y (List.mem_cons_of_mem _ hy)
theorem check_file_val {z : Str} : m_check_file z = .ok () := rfl
theorem history_val {l : List Nat} {ws : List Wr} (h : HistOk l ws) : m_History_make (mk l) (some (ws.map wrV)) = .ok (hisV l ws) := by
  unfold m_History_make
  rw [check_file_val, bind_ok]
  show (foldR _ (ws.map wrV) ()).bind _ = _
  rw [foldR_unit fun x hx => by
    obtain ⟨w, hw, rfl⟩ := List.mem_map.mp hx
    have := h.n
    rw [file_len_val (by omega), bind_ok, check_write_val (h.w w hw) (by omega)]; rfl]
  rfl
/-- a row with a text put into it -/
def putL (r : List Nat) (w : Wr) : List Nat := r.take w.1 ++ w.2 ++ r.drop (w.1 + w.2.length)
theorem putL_len {r : List Nat} {w : Wr} (h : w.1 + w.2.length ≤ r.length) : (putL r w).length = r.length := by
  unfold putL; rw [List.length_append, List.length_append, List.length_take, List.length_drop]; omega
theorem putL_txt {r : List Nat} {w : Wr} (h : TxtS r) (hw : TxtS w.2) : TxtS (putL r w) := by
  refine List.all_eq_true.mpr fun x hx => ?_
  unfold putL at hx
  rcases List.mem_append.mp hx with hx | hx
  · rcases List.mem_append.mp hx with hx | hx
    · exact List.all_eq_true.mp h x (List.mem_of_mem_take hx)
    · exact List.all_eq_true.mp hw x hx
  · exact List.all_eq_true.mp h x (List.mem_of_mem_drop hx)
/-- what a row becomes, write by write, itself first -/
def stsF (r : List Nat) : List Wr → List (List Nat)
  | [] => [r]
  | w :: ws => r :: stsF (putL r w) ws
def sts (l : List Nat) (ws : List Wr) : List (List Nat) := stsF (l.map fil) ws
theorem stsF_len {r : List Nat} : ∀ {ws : List Wr}, (stsF r ws).length = ws.length + 1
  | [] => rfl
  | w :: ws => by rw [stsF, List.length_cons, stsF_len, List.length_cons]
theorem sts_len {l : List Nat} {ws : List Wr} : (sts l ws).length = ws.length + 1 := stsF_len
theorem stsF_all {n : Nat} {r : List Nat} : ∀ {ws : List Wr}, r.length = n → TxtS r → (∀ w ∈ ws, WrOk n w) → ∀ s ∈ stsF r ws, s.length = n ∧ TxtS s
  | [], hr, ht, _, s, hs => by rw [List.mem_singleton.mp hs]; exact ⟨hr, ht⟩
  | w :: ws, hr, ht, hw, s, hs => by
    have h1 := hw w List.mem_cons_self
    rcases List.mem_cons.mp hs with rfl | hs
    · exact ⟨hr, ht⟩
    · exact stsF_all (by rw [putL_len (by rw [hr]; exact h1.l), hr]) (putL_txt ht h1.t) (fun w' h => hw w' (List.mem_cons_of_mem _ h)) s hs
theorem fil_txt {l : List Nat} (h : CellS l) : TxtS (l.map fil) := by
  refine List.all_eq_true.mpr fun x hx => ?_
  obtain ⟨c, hc, rfl⟩ := List.mem_map.mp hx
  have := List.all_eq_true.mp h c hc
  unfold okC at this
  unfold okT fil
  split
  · rfl
  · simp only [Bool.or_eq_true, beq_iff_eq, Bool.and_eq_true, decide_eq_true_eq] at this ⊢; omega
theorem sts_all {l : List Nat} {ws : List Wr} (h : HistOk l ws) : ∀ s ∈ sts l ws, s.length = l.length ∧ TxtS s := stsF_all (by rw [List.length_map]) (fil_txt h.c) h.w
theorem written_val {r : List Nat} {w : Wr} (hr : r.length ≤ 100000) (hw : w.1 + w.2.length ≤ r.length) : m_written (mk r) (wrV w).1 (wrV w).2 = .ok (mk (putL r w)) := by
  unfold m_written wrV
  have h1 : (mk r).length ≤ 1000000 := by rw [mk_len]; omega
  have h2 : (mk w.2).length ≤ 1000000 := by rw [mk_len]; omega
  rw [pslS_mk h1, bind_ok, signs_mk, cutD_to, pcat_mk (by rw [mk_len, mk_len, List.length_take]; omega), bind_ok, plenS_mk h2, bind_ok, signs_mk, pslS_mk h1, bind_ok, signs_mk, signs_mk,
    show ((w.1 : Int) + (w.2.length : Int)) = ((w.1 + w.2.length : Nat) : Int) by omega, cutD_from, pcat_mk (by rw [mk_len, mk_len, List.length_append, List.length_take, List.length_drop]; omega), bind_ok, signs_mk, signs_mk]
  rfl
theorem pixm1 {α : Type} {xs : List α} {x : α} : pix (xs ++ [x]) (-(1 : Int)) = .ok x := by
  have e : atI (xs ++ [x]) (-(1 : Int)) = some x := by
    unfold atI ixN
    rw [if_neg (by decide), if_pos (by rw [List.length_append, List.length_singleton]; omega)]
    have e2 : (-1 + ((xs ++ [x]).length : Int)).toNat = xs.length := by rw [List.length_append, List.length_singleton]; omega
    show (some (-1 + ((xs ++ [x]).length : Int)).toNat).bind _ = _
    rw [e2]; simp
  unfold pix; rw [e]
/-- the fold of both: the law's and the program's -/
theorem sts_fold {f : List Str → Int × Str → Res (List Str)} {n : Nat} (hn : n ≤ 10000) (hf : ∀ (pre : List (List Nat)) (r : List Nat) (w : Wr), pre.length ≤ 20000 → r.length = n → w.1 + w.2.length ≤ n → f ((pre ++ [r]).map mk) (wrV w) = .ok ((pre ++ [r, putL r w]).map mk)) :
    ∀ {ws : List Wr} {pre : List (List Nat)} {r : List Nat}, pre.length + ws.length ≤ 20000 → r.length = n → (∀ w ∈ ws, WrOk n w) → foldR f (ws.map wrV) ((pre ++ [r]).map mk) = .ok ((pre ++ stsF r ws).map mk)
  | [], pre, r, _, _, _ => rfl
  | w :: ws, pre, r, hl, hr, hw => by
    have h1 := hw w List.mem_cons_self
    have hl : pre.length + (ws.length + 1) ≤ 20000 := hl
    rw [List.map_cons, foldR_cons, hf pre r w (by omega) hr h1.l, bind_ok]
    have e : pre ++ [r, putL r w] = (pre ++ [r]) ++ [putL r w] := by simp
    rw [e, sts_fold hn hf (pre := pre ++ [r]) (by rw [List.length_append, List.length_singleton]; omega) (by rw [putL_len (by rw [hr]; exact h1.l), hr]) fun w' h => hw w' (List.mem_cons_of_mem _ h), List.append_assoc]
    rfl
theorem map_snoc {xs : List (List Nat)} {x : List Nat} : (xs ++ [x]).map mk = xs.map mk ++ [mk x] := by simp
theorem states_val {l : List Nat} {ws : List Wr} (h : HistOk l ws) : m_History_states (hisV l ws) = .ok ((sts l ws).map mk) := by
  have hn := h.n
  unfold m_History_states
  have e1 : m_File_content (mk l) = .ok (mk (l.map fil)) := by
    unfold m_File_content
    rw [prepl_mk (by rw [mk_len]; omega)]; rfl
  rw [e1, ne_ok, bind_ok]
  have := sts_fold (f := fun s3 x4 => (pix s3 (-(1 : Int))).bind fun z8 => (m_written z8 x4.1 x4.2).bind fun z9 => (papp s3 z9).bind fun z7 => Res.ok z7) hn (fun pre r w hp hr hw => by
    rw [map_snoc, pixm1, bind_ok, written_val (by omega) (by rw [hr]; exact hw), bind_ok, show papp (pre.map mk ++ [mk r]) (mk (putL r w)) = .ok (pre.map mk ++ [mk r] ++ [mk (putL r w)]) from guard_ok (by rw [List.length_append, List.length_map, List.length_singleton, sz]; omega)]
    simp) (ws := ws) (pre := []) (r := l.map fil) (by have := h.m; simp; omega) (by rw [List.length_map]) h.w
  simp only [List.nil_append] at this
  show (foldR _ (ws.map wrV) ([l.map fil].map mk)).bind _ = _
  rw [this]; rfl
theorem check_content_val {l : List Nat} {ws : List Wr} (h : HistOk l ws) {c : List Nat} (hc : TxtS c) (hl : c.length = l.length) : m_check_content (mk c) (hisV l ws) = .ok () := by
  have hn := h.n
  have h1 : (mk c).length ≤ 1000000 := by rw [mk_len]; omega
  unfold m_check_content
  rw [is_content_val h1, bind_ok, signs_mk, hc, cond_true, plenS_mk h1, bind_ok, show (m_History_file (hisV l ws)).ne = .ok (mk l) from rfl, bind_ok, file_len_val (by omega), bind_ok, signs_mk, decide_eq_true (by omega)]
  rfl
theorem law_states_val {l : List Nat} {ws : List Wr} (h : HistOk l ws) : m_law_states (mk l) (ws.map wrV) = .ok ((sts l ws).map mk) := by
  have hn := h.n
  unfold m_law_states
  rw [prepl_mk (by rw [mk_len]; omega), signs_mk, bind_ok]
  have := sts_fold (f := fun (s3 : List Str) (x4 : Int × Str) => (pix s3 (-(1 : Int))).bind fun z7 => (pslS z7 none (some x4.1)).bind fun z9 => (pcat z9 x4.2).bind fun z10 => (plenS x4.2).bind fun z11 => (pslS z7 (some (x4.1 + z11)) none).bind fun z12 => (pcat z10 z12).bind fun z13 => (papp s3 z13).bind fun z8 => Res.ok z8) hn (fun pre r w hp hr hw => by
    have hv := written_val (r := r) (w := w) (by omega) (by rw [hr]; exact hw)
    unfold m_written at hv
    rw [map_snoc, pixm1, bind_ok]
    have e : ((pslS (mk r) none (some (wrV w).1)).bind fun z9 => (pcat z9 (wrV w).2).bind fun z10 => (plenS (wrV w).2).bind fun z11 => (pslS (mk r) (some ((wrV w).1 + z11)) none).bind fun z12 => (pcat z10 z12).bind fun z13 => (papp (pre.map mk ++ [mk r]) z13).bind fun z8 => Res.ok z8) =
        ((pslS (mk r) none (some (wrV w).1)).bind fun z1 => (pcat z1 (wrV w).2).bind fun z2 => (plenS (wrV w).2).bind fun z3 => (pslS (mk r) (some ((wrV w).1 + z3)) none).bind fun z4 => (pcat z2 z4).bind fun z5 => Res.ok z5).bind fun z13 => (papp (pre.map mk ++ [mk r]) z13).bind fun z8 => Res.ok z8 := by simp only [bind_bind, bind_ok]
    rw [e, hv, bind_ok, show papp (pre.map mk ++ [mk r]) (mk (putL r w)) = .ok (pre.map mk ++ [mk r] ++ [mk (putL r w)]) from guard_ok (by rw [List.length_append, List.length_map, List.length_singleton, sz]; omega)]
    simp) (ws := ws) (pre := []) (r := l.map fil) (by have := h.m; simp; omega) (by rw [List.length_map]) h.w
  simp only [List.nil_append] at this
  show (foldR _ (ws.map wrV) ([l.map fil].map mk)).bind _ = _
  rw [this]; rfl
theorem his_len_val {l : List Nat} {ws : List Wr} (h : ws.length ≤ 100000) : plenO (m_History_len (hisV l ws)) = .ok (ws.length : Int) := by
  unfold plenO m_History_len
  rw [ne_ok, bind_ok]
  show guard _ _ = _
  rw [show ((hisV l ws).2.length : Int) = (ws.length : Int) by rw [List.length_map]]
  have h1 : 0 ≤ (ws.length : Int) ∧ (ws.length : Int) < 2 ^ 63 := ⟨by omega, by omega⟩
  exact guard_ok h1
theorem blk_len {k : Nat} {l : List Nat} : (blk k l).length = (l.length + k - 1) / k := by unfold blk; rw [List.length_map, List.length_range]
/-- block b of a row -/
def bAt (k : Nat) (s : List Nat) (b : Nat) : List Nat := (blk k s).getD b []
/-- all states of one length -/
structure StsOk (L : Nat) (S : List (List Nat)) : Prop where
  ne : 1 ≤ S.length
  n : S.length ≤ 10001
  l : L ≤ 10000
  s : ∀ s ∈ S, s.length = L ∧ TxtS s
theorem sts_ok {l : List Nat} {ws : List Wr} (h : HistOk l ws) : StsOk l.length (sts l ws) := ⟨by rw [sts_len]; omega, by rw [sts_len]; have := h.m; omega, h.n, sts_all h⟩
/-- how many blocks -/
def nB (k L : Nat) : Nat := (L + k - 1) / k
theorem nB_le {k L : Nat} (hk : 1 ≤ k) : nB k L ≤ L := by
  have := blk_count hk (List.replicate L 0)
  rwa [blk_len, List.length_replicate] at this
theorem blk_nB {k L : Nat} {s : List Nat} (h : s.length = L) : (blk k s).length = nB k L := by rw [blk_len, h]; rfl
theorem getD_at {α : Type} {l : List α} {i : Nat} {d : α} (h : i < l.length) : l.getD i d = l[i] := by simp [List.getD, h]
theorem pix_getD {α : Type} {l : List α} {i : Nat} {d : α} (h : i < l.length) : pix l (i : Int) = .ok (l.getD i d) := by rw [pix_nat (List.getElem?_eq_getElem h), getD_at h]
theorem rows_val {S : List (List Nat)} {L : Nat} {n : Int} (hS : StsOk L S) (hn : SzOk n) : compR (β := List Str) (fun x1 => (m_blocks_of x1 n).bind fun z2 => Res.ok (some z2)) (S.map mk) = .ok (S.map fun s => (blk n.toNat s).map mk) := by
  rw [compR_map (fun z => (blk n.toNat (signsL z)).map mk) (by rw [List.length_map, sz]; have := hS.n; omega) fun x hx => by
    obtain ⟨s, hs, rfl⟩ := List.mem_map.mp hx
    have := (hS.s s hs).1
    have := hS.l
    rw [blocks_val hn (by rw [mk_len]; omega)]; rfl, List.map_map]
  rfl
def colsL (k L : Nat) (S : List (List Nat)) : List (List Str) := (List.range (nB k L)).map fun b => S.map fun s => mk (bAt k s b)
theorem columns_val {S : List (List Nat)} {L : Nat} {n : Int} (hS : StsOk L S) (hn : SzOk n) : m_columns_of (S.map mk) n = .ok (colsL n.toNat L S) := by
  have hk : 1 ≤ n.toNat := by have := hn.1; omega
  have hL := hS.l
  have hnb := nB_le (L := L) hk
  unfold m_columns_of
  rw [rows_val hS hn, bind_ok]
  obtain ⟨s0, S', rfl⟩ : ∃ s0 S', S = s0 :: S' := by
    cases S with
    | nil => have := hS.ne; simp at this
    | cons s S => exact ⟨s, S, rfl⟩
  have e0 : pix ((s0 :: S').map fun s => (blk n.toNat s).map mk) (0 : Int) = .ok ((blk n.toNat s0).map mk) := pix_nat (i := 0) rfl
  have hl0 : ((blk n.toNat s0).map mk).length = nB n.toNat L := by rw [List.length_map, blk_nB (hS.s s0 List.mem_cons_self).1]
  rw [e0, bind_ok, hl0, guard_ok (show small62 (nB n.toNat L : Int) from small62_of (by omega) (by omega)), bind_ok, Int.toNat_natCast]
  have hin : ∀ b : Nat, b < nB n.toNat L → compR (β := Str) (fun x6 => (pix x6 (b : Int)).bind fun z7 => Res.ok (some z7)) ((s0 :: S').map fun s => (blk n.toNat s).map mk) = .ok ((s0 :: S').map fun s => mk (bAt n.toNat s b)) := fun b hb => by
    rw [compR_map (fun r => r.getD b (mk [])) (by rw [List.length_map, sz]; have := hS.n; omega) fun x hx => by
      obtain ⟨s, hs, rfl⟩ := List.mem_map.mp hx
      rw [pix_getD (d := mk []) (by rw [List.length_map, blk_nB (hS.s s hs).1]; exact hb)]; rfl, List.map_map]
    congr 1
    refine List.map_congr_left fun s hs => ?_
    have hlen : b < (blk n.toNat s).length := by rw [blk_nB (hS.s s hs).1]; exact hb
    show ((blk n.toNat s).map mk).getD b (mk []) = mk (bAt n.toNat s b)
    unfold bAt
    rw [getD_at (by rw [List.length_map]; exact hlen), getD_at hlen, List.getElem_map]
  rw [compR_map (fun (x5 : Int) => (s0 :: S').map fun s => mk (bAt n.toNat s x5.toNat)) (by rw [rangeL_length, sz]; omega) fun x hx => by
    have := mem_rangeL.mp hx
    obtain ⟨b, rfl⟩ := Int.eq_ofNat_of_zero_le this.1
    rw [hin b (by omega), bind_ok, Int.toNat_natCast], bind_ok]
  unfold colsL rangeL
  rw [List.map_map]
  congr 1
  refine List.map_congr_left fun b _ => ?_
  show (s0 :: S').map (fun s => mk (bAt n.toNat s (0 + (b : Int)).toNat)) = _
  rw [Int.zero_add, Int.toNat_natCast]
/-- the moments from last on at which p holds -/
def fits (n last : Nat) (p : Nat → Bool) : List Nat := ((List.range (n - last)).map fun i => last + i).filter p
theorem mem_fits {n last t : Nat} {p : Nat → Bool} : t ∈ fits n last p ↔ last ≤ t ∧ t < n ∧ p t = true := by
  unfold fits
  rw [List.mem_filter, List.mem_map]
  constructor
  · rintro ⟨⟨i, hi, rfl⟩, hp⟩; have := List.mem_range.mp hi; exact ⟨by omega, by omega, hp⟩
  · rintro ⟨h1, h2, hp⟩; exact ⟨⟨t - last, List.mem_range.mpr (by omega), by omega⟩, hp⟩
theorem fits_sorted {n last : Nat} {p : Nat → Bool} : (fits n last p).Pairwise (· < ·) := by
  unfold fits
  refine List.Pairwise.filter p ?_
  rw [List.pairwise_map]
  exact (List.pairwise_lt_range).imp fun h => by omega
theorem fits_head {n last t : Nat} {r : List Nat} {p : Nat → Bool} (h : fits n last p = t :: r) : last ≤ t ∧ t < n ∧ p t = true ∧ ∀ u, last ≤ u → u < n → p u = true → t ≤ u := by
  have h1 := mem_fits.mp (show t ∈ fits n last p by rw [h]; exact List.mem_cons_self)
  refine ⟨h1.1, h1.2.1, h1.2.2, fun u u1 u2 u3 => ?_⟩
  have hu : u ∈ fits n last p := mem_fits.mpr ⟨u1, u2, u3⟩
  have hs := fits_sorted (n := n) (last := last) (p := p)
  rw [h] at hu hs
  rcases List.mem_cons.mp hu with rfl | hu
  · exact Nat.le_refl _
  · exact Nat.le_of_lt ((List.pairwise_cons.mp hs).1 u hu)
theorem fits_comp {n last : Nat} {p : Nat → Bool} {f : Int → Res (Option Int)} (hn : n ≤ 100000) (hf : ∀ t : Nat, last ≤ t → t < n → f (t : Int) = .ok (if p t then some (t : Int) else none)) :
    compR f (rangeL (last : Int) (Int.toNat ((n : Int) - (last : Int)))) = .ok ((fits n last p).map Int.ofNat) := by
  have e : Int.toNat ((n : Int) - (last : Int)) = n - last := by omega
  rw [e, compR_filter (fun x => p x.toNat) (by rw [rangeL_length, sz]; omega) fun x hx => by
    have := mem_rangeL.mp hx
    obtain ⟨t, rfl⟩ := Int.eq_ofNat_of_zero_le (show 0 ≤ x by omega)
    rw [hf t (by omega) (by omega), Int.toNat_natCast]]
  congr 1
  unfold rangeL fits
  rw [List.filter_map, List.filter_map, List.map_map]
  congr 1
theorem mk_dec {a b : List Nat} : decide (mk a = mk b) = decide (a = b) := by rw [Bool.eq_iff_iff]; simp [mk_inj]
theorem map_at {α β : Type} {f : α → β} {S : List α} {t : Nat} {d : α} (h : t < S.length) : pix (S.map f) (t : Int) = .ok (f (S.getD t d)) := by
  rw [pix_nat (x := f (S.getD t d))]
  rw [List.getElem?_map, List.getElem?_eq_getElem h, getD_at h]; rfl
abbrev Blk := List Nat
theorem ltB_tri {a b : Blk} (h : ¬ a < b) (g : a ≠ b) : b < a := by
  rcases Std.lt_trichotomy a b with q | q | q
  · exact absurd q h
  · exact absurd q g
  · exact q
/-- the first place from t on with the text x -/
def nxt (c : List Blk) (t : Nat) (x : Blk) : Option Nat := (fits c.length t fun i => decide (c.getD i [] = x)).head?
theorem nxt_some {c : List Blk} {t f : Nat} {x : Blk} : nxt c t x = some f ↔ t ≤ f ∧ f < c.length ∧ c.getD f [] = x ∧ ∀ u, t ≤ u → u < c.length → c.getD u [] = x → f ≤ u := by
  unfold nxt
  constructor
  · intro h
    cases e : fits c.length t fun i => decide (c.getD i [] = x) with
    | nil => rw [e] at h; cases h
    | cons g r =>
      rw [e] at h; cases h
      obtain ⟨h1, h2, h3, h4⟩ := fits_head e
      exact ⟨h1, h2, of_decide_eq_true h3, fun u u1 u2 u3 => h4 u u1 u2 (decide_eq_true u3)⟩
  · rintro ⟨h1, h2, h3, h4⟩
    have hm : f ∈ fits c.length t fun i => decide (c.getD i [] = x) := mem_fits.mpr ⟨h1, h2, decide_eq_true h3⟩
    cases e : fits c.length t fun i => decide (c.getD i [] = x) with
    | nil => rw [e] at hm; simp at hm
    | cons g r =>
      obtain ⟨g1, g2, g3, g4⟩ := fits_head e
      have := h4 g g1 g2 (of_decide_eq_true g3)
      have := g4 f h1 h2 (decide_eq_true h3)
      show some g = some f
      congr 1; omega
theorem nxt_of {c : List Blk} {t i : Nat} (h1 : t ≤ i) (h2 : i < c.length) : ∃ f, nxt c t (c.getD i []) = some f ∧ f ≤ i := by
  have hm : i ∈ fits c.length t fun j => decide (c.getD j [] = c.getD i []) := mem_fits.mpr ⟨h1, h2, decide_eq_true rfl⟩
  cases e : fits c.length t fun j => decide (c.getD j [] = c.getD i []) with
  | nil => rw [e] at hm; simp at hm
  | cons g r =>
    obtain ⟨g1, g2, g3, g4⟩ := fits_head e
    exact ⟨g, by unfold nxt; rw [e]; rfl, g4 i h1 h2 (decide_eq_true rfl)⟩
def isF (c : List Blk) (t i : Nat) : Bool := decide (nxt c t (c.getD i []) = some i)
def upTo (c : List Blk) (t i : Nat) : List (Blk × Nat) := (((List.range i).map (t + ·)).filter (isF c t)).map fun j => (c.getD j [], j)
def firsts (c : List Blk) (t : Nat) : List (Blk × Nat) := upTo c t (c.length - t)
theorem mem_upTo {c : List Blk} {t i f : Nat} {x : Blk} (hi : t + i ≤ c.length ∨ i = 0) : (x, f) ∈ upTo c t i ↔ nxt c t x = some f ∧ f < t + i := by
  unfold upTo
  rw [List.mem_map]
  constructor
  · rintro ⟨j, hj, e⟩
    obtain ⟨hj, p⟩ := List.mem_filter.mp hj
    obtain ⟨k, hk, rfl⟩ := List.mem_map.mp hj
    have hk := List.mem_range.mp hk
    injection e with e1 e2
    subst e2; subst e1
    exact ⟨of_decide_eq_true p, by omega⟩
  · rintro ⟨h, hf⟩
    obtain ⟨h1, h2, h3, _⟩ := nxt_some.mp h
    refine ⟨f, List.mem_filter.mpr ⟨List.mem_map.mpr ⟨f - t, List.mem_range.mpr (by omega), by omega⟩, ?_⟩, by rw [h3]⟩
    unfold isF
    rw [h3]; exact decide_eq_true h
theorem mem_firsts {c : List Blk} {t f : Nat} {x : Blk} : (x, f) ∈ firsts c t ↔ nxt c t x = some f := by
  unfold firsts
  rw [mem_upTo (by omega)]
  refine ⟨fun h => h.1, fun h => ⟨h, ?_⟩⟩
  have := nxt_some.mp h; omega
theorem upTo_nodup {c : List Blk} {t i : Nat} : ((upTo c t i).map (·.1)).Nodup := by
  unfold upTo
  rw [List.map_map]
  have hn : (((List.range i).map (t + ·)).filter (isF c t)).Nodup := by
    refine List.Pairwise.filter _ ?_
    refine List.Pairwise.map _ (fun a b h => ?_) (List.nodup_range (n := i))
    intro e; exact h (by omega)
  refine List.pairwise_map.mpr (List.Pairwise.imp_of_mem ?_ hn)
  intro a b ha hb hab e
  have pa := of_decide_eq_true (List.mem_filter.mp ha).2
  have pb := of_decide_eq_true (List.mem_filter.mp hb).2
  have e : c.getD a [] = c.getD b [] := e
  rw [e, pb] at pa
  exact hab (Option.some.inj pa).symm
def pV (p : Blk × Nat) : Str × Int := (mk p.1, (p.2 : Int))
theorem dget_map {s : List (Blk × Nat)} {x : Blk} : (dget (s.map pV) (mk x)).isSome = decide (x ∈ s.map (·.1)) := by
  unfold dget
  induction s with
  | nil => rfl
  | cons p s ih =>
    rw [List.map_cons, List.find?_cons, List.map_cons]
    by_cases e : p.1 = x
    · rw [show decide ((pV p).1 = mk x) = true from decide_eq_true (by rw [← e]; rfl)]
      simp [e]
    · rw [show decide ((pV p).1 = mk x) = false from decide_eq_false (fun h => e (mk_inj.mp h)), ih]
      rw [Bool.eq_iff_iff]; simp [Ne.symm e]
/-- texts first, then places -/
def leB (p q : Blk × Nat) : Bool := decide (p.1 < q.1 ∨ (p.1 = q.1 ∧ p.2 ≤ q.2))
theorem leD_pV (p q : Blk × Nat) : leB p q = leD (py2 pyS pyI) (pV p) (pV q) := by
  show leB p q = !PySem.W.dataLt (.tuple [.str (mk q.1), .int q.2]) (.tuple [.str (mk p.1), .int p.2])
  rw [PySem.W.dataLt_pair (by simp [PySem.W.alike]) (by simp [PySem.W.alike]), PySem.W.dataLt_str, PySem.W.dataLt_int]
  have e1 : PyData.eqv (.str (mk q.1)) (.str (mk p.1)) = decide (mk q.1 = mk p.1) := pyS.eqv _ _
  have e2 : PyData.eqv (.int (q.2 : Int)) (.int (p.2 : Int)) = decide ((q.2 : Int) = (p.2 : Int)) := pyI.eqv _ _
  rw [e1, e2, mk_dec]
  unfold leB
  have e3 : ((mk q.1).cps.toList < (mk p.1).cps.toList) = (q.1 < p.1) := rfl
  rw [Bool.eq_iff_iff]
  simp only [e3, decide_eq_true_eq, Bool.not_eq_true']
  by_cases h : q.1 = p.1
  · simp only [h, decide_true, if_true]
    by_cases g : (q.2 : Int) = (p.2 : Int)
    · simp only [g, decide_true, if_true]; exact ⟨fun _ => trivial, fun _ => .inr ⟨trivial, by omega⟩⟩
    · simp only [g, decide_false, Bool.false_eq_true, if_false, decide_eq_false_iff_not]
      constructor
      · rintro (h1 | ⟨_, h1⟩)
        · exact absurd h1 (List.lt_irrefl _)
        · omega
      · intro h1; right; exact ⟨trivial, by omega⟩
  · simp only [h, decide_false, Bool.false_eq_true, if_false, decide_eq_false_iff_not]
    constructor
    · rintro (h1 | ⟨h1, _⟩)
      · exact List.lt_asymm h1
      · exact absurd h1.symm h
    · intro h1; left; exact ltB_tri h1 h
theorem leB_trans (a b c : Blk × Nat) (h : leB a b = true) (g : leB b c = true) : leB a c = true := by
  unfold leB at *
  have h := of_decide_eq_true h
  have g := of_decide_eq_true g
  refine decide_eq_true ?_
  rcases h with h | ⟨h, h'⟩
  · rcases g with g | ⟨g, _⟩
    · exact .inl (List.lt_trans h g)
    · exact .inl (by rw [← g]; exact h)
  · rcases g with g | ⟨g, g'⟩
    · exact .inl (by rw [h]; exact g)
    · exact .inr ⟨h.trans g, by omega⟩
theorem leB_total (a b : Blk × Nat) : (leB a b || leB b a) = true := by
  unfold leB
  rw [Bool.or_eq_true, decide_eq_true_eq, decide_eq_true_eq]
  rcases Std.lt_trichotomy a.1 b.1 with q | q | q
  · exact .inl (.inl q)
  · by_cases h : a.2 ≤ b.2
    · exact .inl (.inr ⟨q, h⟩)
    · exact .inr (.inr ⟨q.symm, by omega⟩)
  · exact .inr (.inl q)
/-- what a block can read from t on, in order, with the first places -/
def rdg (c : List Blk) (t : Nat) : List (Blk × Nat) := (firsts c t).mergeSort leB
theorem mem_rdg {c : List Blk} {t f : Nat} {x : Blk} : (x, f) ∈ rdg c t ↔ nxt c t x = some f := by
  unfold rdg; rw [(List.mergeSort_perm _ _).mem_iff, mem_firsts]
theorem rdg_nodup {c : List Blk} {t : Nat} : ((rdg c t).map (·.1)).Nodup := ((List.mergeSort_perm (firsts c t) leB).map (·.1)).nodup_iff.mpr upTo_nodup
theorem rdg_sorted {c : List Blk} {t : Nat} : (rdg c t).Pairwise fun p q => p.1 < q.1 := by
  have h1 : (rdg c t).Pairwise fun p q => leB p q = true := List.pairwise_mergeSort leB_trans leB_total _
  have h2 : (rdg c t).Pairwise fun p q => p.1 ≠ q.1 := List.pairwise_map.mp rdg_nodup
  refine (h1.and h2).imp fun {p q} h => ?_
  rcases of_decide_eq_true h.1 with g | ⟨g, _⟩
  · exact g
  · exact absurd g h.2
theorem rdg_len {c : List Blk} {t : Nat} : (rdg c t).length ≤ c.length := by
  unfold rdg firsts upTo
  rw [(List.mergeSort_perm _ _).length_eq, List.length_map]
  refine Nat.le_trans (List.length_filter_le _ _) ?_
  rw [List.length_map, List.length_range]; omega
theorem readings_val {c : List Blk} {t : Nat} (hc : c.length ≤ 100000) (ht : t ≤ c.length) : m_readings (c.map mk) (t : Int) = .ok ((rdg c t).map pV) := by
  unfold m_readings
  rw [List.length_map, guard_ok (show small62 (t : Int) ∧ small62 (c.length : Int) from ⟨small62_of (by omega) (by omega), small62_of (by omega) (by omega)⟩), bind_ok]
  have e : Int.toNat ((c.length : Int) - (t : Int)) = c.length - t := by omega
  rw [e]
  refine ok_eq ?_
  refine foldIO (fun i s => s = (upTo c t i).map pV) rfl ?_ ?_
  · rintro i s hi rfl
    have hz : pix (c.map mk) ((t : Int) + (i : Int)) = .ok (mk (c.getD (t + i) [])) := by
      rw [show (t : Int) + (i : Int) = ((t + i : Nat) : Int) by omega]; exact map_at (by omega)
    rw [hz, bind_ok]
    have hnew : decide (c.getD (t + i) [] ∈ (upTo c t i).map (·.1)) = !isF c t (t + i) := by
      unfold isF
      obtain ⟨f, f1, f2⟩ := nxt_of (c := c) (t := t) (i := t + i) (by omega) (by omega)
      rw [f1]
      by_cases e : f = t + i
      · rw [show decide (some f = some (t + i)) = true from decide_eq_true (by rw [e]), Bool.not_true]
        refine decide_eq_false fun h => ?_
        obtain ⟨p, hp, e1⟩ := List.mem_map.mp h
        obtain ⟨x, g⟩ := p
        have hp := (mem_upTo (by omega)).mp hp
        have e1 : x = c.getD (t + i) [] := e1
        rw [e1, f1] at hp
        have := Option.some.inj hp.1; omega
      · rw [show decide (some f = some (t + i)) = false from decide_eq_false (fun h => e (Option.some.inj h)), Bool.not_false]
        exact decide_eq_true (List.mem_map.mpr ⟨(c.getD (t + i) [], f), (mem_upTo (by omega)).mpr ⟨f1, by omega⟩, rfl⟩)
    rw [dget_map, hnew, Bool.not_not]
    have hsucc : upTo c t (i + 1) = upTo c t i ++ (if isF c t (t + i) then [(c.getD (t + i) [], t + i)] else []) := by
      unfold upTo
      rw [List.range_succ, List.map_append, List.filter_append, List.map_append]
      congr 1
      show (([t + i] : List Nat).filter (isF c t)).map _ = _
      rw [List.filter_cons]
      split <;> rfl
    have hl : (upTo c t i).length ≤ i := by
      unfold upTo; rw [List.length_map]
      refine Nat.le_trans (List.length_filter_le _ _) ?_
      rw [List.length_map, List.length_range]; exact Nat.le_refl _
    cases h : isF c t (t + i) with
    | true =>
      rw [cond_true, bind_ok]
      have hg : (dget ((upTo c t i).map pV) (mk (c.getD (t + i) []))).isSome = false := by rw [dget_map, hnew, h]; rfl
      have hp : pdput ((upTo c t i).map pV) (mk (c.getD (t + i) [])) ((t : Int) + (i : Int)) = .ok ((upTo c t i).map pV ++ [(mk (c.getD (t + i) []), (t : Int) + (i : Int))]) := by
        unfold pdput dput
        rw [hg, if_neg (by decide)]
        exact guard_ok (by rw [List.length_map, sz]; omega)
      rw [hp, bind_ok, bind_ok]
      show _ = _
      rw [hsucc, h, if_pos rfl, List.map_append]
      congr 1
    | false =>
      rw [cond_false, bind_ok]
      show _ = _
      rw [hsucc, h, if_neg (by decide), List.append_nil]
  · rintro s rfl
    have hl : (upTo c t (c.length - t)).length ≤ c.length - t := by
      unfold upTo; rw [List.length_map]
      refine Nat.le_trans (List.length_filter_le _ _) ?_
      rw [List.length_map, List.length_range]; exact Nat.le_refl _
    refine be (compR_map (f := fun (x16 : Str × Int) => Res.ok (some (x16.1, x16.2))) id (by rw [List.length_map, sz]; omega) fun _ _ => rfl) ?_
    rw [List.map_id]
    refine be (guard_ok (by rw [List.length_map, sz]; omega)) ?_
    show _ = _
    unfold rdg firsts
    rw [List.map_mergeSort (s := leD (py2 pyS pyI)) fun a _ b _ => leD_pV a b]
def cnt : List (List Blk) → Nat → Nat
  | [], _ => 1
  | c :: cs, t => ((rdg c t).map fun p => cnt cs p.2).sum
def rows (P : Nat) (cs : List (List Blk)) : List Int := (List.range P).map fun t => (cnt cs t : Int)
def cntL (P : Nat) : List (List Blk) → List (List Int)
  | [] => [rows P []]
  | c :: cs => rows P (c :: cs) :: cntL P cs
theorem cntL_head {P : Nat} {cs : List (List Blk)} : ∃ r, cntL P cs = rows P cs :: r := by cases cs <;> exact ⟨_, rfl⟩
theorem cntL_len {P : Nat} : ∀ {cs : List (List Blk)}, (cntL P cs).length = cs.length + 1
  | [] => rfl
  | c :: cs => by rw [cntL, List.length_cons, cntL_len, List.length_cons]
theorem cntL_at {P : Nat} : ∀ {cs : List (List Blk)} {b : Nat}, b ≤ cs.length → (cntL P cs)[b]? = some (rows P (cs.drop b))
  | [], 0, _ => rfl
  | [], b + 1, h => by simp at h
  | c :: cs, 0, _ => rfl
  | c :: cs, b + 1, h => by rw [cntL, List.getElem?_cons_succ, cntL_at (by simpa using h)]; rfl
theorem sum_nat {α : Type} {f : α → Nat} : ∀ {l : List α}, (l.map fun x => (f x : Int)).sum = ((l.map f).sum : Nat)
  | [] => rfl
  | x :: l => by rw [List.map_cons, List.sum_cons, sum_nat, List.map_cons, List.sum_cons, Int.natCast_add]
theorem counts_val {P : Nat} (hP : P ≤ 100000) {cols : List (List Blk)} (hl : cols.length ≤ 100000) (hc : ∀ c ∈ cols, c.length = P) : m_counts_of (cols.map fun c => c.map mk) (P : Int) = .ok (cntL P cols) := by
  unfold m_counts_of
  rw [guard_ok (show small62 (P : Int) from small62_of (by omega) (by omega)), bind_ok, Int.toNat_natCast, compR_map (fun _ => (1 : Int)) (by rw [rangeL_length, sz]; omega) fun _ _ => rfl, bind_ok]
  have e1 : (rangeL 0 P).map (fun _ => (1 : Int)) = rows P [] := by
    unfold rows rangeL; rw [List.map_map]; rfl
  rw [e1, ← List.map_reverse]
  have key : ∀ (cs : List (List Blk)), cs.length ≤ 100000 → (∀ c ∈ cs, c.length = P) → foldR (fun (s4 : (List (List Int))) (x5 : List Str) => (Res.ok ()).bind fun _ => (compR (β := Int) (fun x9 => (m_readings x5 x9).bind fun z10 => (compR (β := Int) (fun x11 => (pix s4 (-(1 : Int))).bind fun z12 => (pix z12 x11.2).bind fun z13 => Res.ok (some z13)) z10).bind fun l14 => Res.ok (some (l14.sum))) (rangeL 0 P)).bind fun l15 => (papp s4 l15).bind fun z8 => Res.ok z8) (cs.reverse.map fun c => c.map mk) [rows P []] = .ok (cntL P cs).reverse := by
    intro cs
    induction cs with
    | nil => intro _ _; rfl
    | cons c cs ih =>
      intro hl hc
      have hl : cs.length + 1 ≤ 100000 := hl
      rw [List.reverse_cons, List.map_append, foldR_append, ih (by omega) fun c' h => hc c' (List.mem_cons_of_mem _ h), bind_ok]
      show (foldR _ [c.map mk] _) = _
      rw [foldR_cons, bind_ok]
      obtain ⟨r, hr⟩ := cntL_head (P := P) (cs := cs)
      have hrl : r.length + 1 = cs.length + 1 := by rw [← cntL_len (P := P), hr]; rfl
      have hcl := hc c List.mem_cons_self
      rw [hr, List.reverse_cons, compR_map (fun (x : Int) => (cnt (c :: cs) x.toNat : Int)) (by rw [rangeL_length, sz]; omega) fun x hx => by
        have := mem_rangeL.mp hx
        obtain ⟨t, rfl⟩ := Int.eq_ofNat_of_zero_le this.1
        rw [readings_val (by omega) (by omega), bind_ok, compR_map (fun p => (cnt cs p.2.toNat : Int)) (by rw [List.length_map, sz]; have := rdg_len (c := c) (t := t); omega) fun p hp => by
          obtain ⟨q, hq, rfl⟩ := List.mem_map.mp hp
          obtain ⟨x, f⟩ := q
          have := nxt_some.mp (mem_rdg.mp hq)
          rw [pixm1, bind_ok]
          show (pix (rows P cs) (f : Int)).bind _ = Res.ok (some (cnt cs (f : Int).toNat : Int))
          rw [pix_nat (x := (cnt cs f : Int)) (by unfold rows; rw [List.getElem?_map, List.getElem?_range (by omega)]; rfl), bind_ok, Int.toNat_natCast], bind_ok, List.map_map]
        congr 2
        rw [Int.toNat_natCast]
        show ((rdg c t).map fun p => (cnt cs ((p.2 : Int)).toNat : Int)).sum = _
        simp only [Int.toNat_natCast]
        rw [sum_nat]; rfl, bind_ok]
      have e2 : (rangeL 0 P).map (fun (x : Int) => (cnt (c :: cs) x.toNat : Int)) = rows P (c :: cs) := by
        unfold rows rangeL; rw [List.map_map]
        refine List.map_congr_left fun t _ => ?_
        show (cnt (c :: cs) (0 + (t : Int)).toNat : Int) = _
        rw [Int.zero_add, Int.toNat_natCast]
      rw [e2, show papp (r.reverse ++ [rows P cs]) (rows P (c :: cs)) = .ok (r.reverse ++ [rows P cs] ++ [rows P (c :: cs)]) from guard_ok (by rw [List.length_append, List.length_reverse, List.length_singleton, sz]; omega), bind_ok]
      show Res.ok _ = Res.ok _
      rw [cntL, hr, List.reverse_cons, List.reverse_cons]
  rw [key cols hl hc, bind_ok, List.reverse_reverse]
/-- the text with a number among weighted ones -/
def pick (w : Nat → Nat) : List (Blk × Nat) → Nat → Option (Blk × Nat × Nat)
  | [], _ => none
  | p :: r, n => if n < w p.2 then some (p.1, p.2, n) else pick w r (n - w p.2)
def unr : List (List Blk) → Nat → Nat → List Blk
  | [], _, _ => []
  | c :: cs, t, n => match pick (cnt cs) (rdg c t) n with
    | some (x, f, m) => x :: unr cs f m
    | none => []
theorem pick_some {w : Nat → Nat} : ∀ {R : List (Blk × Nat)} {n : Nat}, n < (R.map fun p => w p.2).sum → ∃ x f m, pick w R n = some (x, f, m) ∧ (x, f) ∈ R ∧ m < w f
  | [], n, h => by simp at h
  | p :: r, n, h => by
    rw [List.map_cons, List.sum_cons] at h
    unfold pick
    by_cases g : n < w p.2
    · rw [if_pos g]; exact ⟨_, _, _, rfl, List.mem_cons_self, g⟩
    · rw [if_neg g]
      obtain ⟨x, f, m, e, h1, h2⟩ := pick_some (w := w) (R := r) (n := n - w p.2) (by omega)
      exact ⟨x, f, m, e, List.mem_cons_of_mem _ h1, h2⟩
theorem pick_of {w : Nat → Nat} : ∀ {R : List (Blk × Nat)} {x : Blk} {f m : Nat}, (x, f) ∈ R → m < w f → (R.map (·.1)).Nodup → ∃ n, n < (R.map fun p => w p.2).sum ∧ pick w R n = some (x, f, m)
  | [], x, f, m, h, _, _ => by simp at h
  | p :: r, x, f, m, h, hm, nd => by
    rw [List.map_cons] at nd
    have nd := List.nodup_cons.mp nd
    rw [List.map_cons, List.sum_cons]
    rcases List.mem_cons.mp h with e | h
    · subst e
      have hm' : m < w (x, f).2 := hm
      exact ⟨m, by omega, by unfold pick; rw [if_pos hm']⟩
    · obtain ⟨n, h1, h2⟩ := pick_of h hm nd.2
      refine ⟨n + w p.2, by omega, ?_⟩
      unfold pick
      rw [if_neg (by omega), Nat.add_sub_cancel]; exact h2
/-- contents that can be read from a place on -/
def Rd : List (List Blk) → Nat → List Blk → Prop
  | [], _, w => w = []
  | c :: cs, t, w => ∃ x f v, w = x :: v ∧ nxt c t x = some f ∧ Rd cs f v
theorem unr_Rd : ∀ {cs : List (List Blk)} {t n : Nat}, n < cnt cs t → Rd cs t (unr cs t n)
  | [], t, n, _ => rfl
  | c :: cs, t, n, h => by
    obtain ⟨x, f, m, e, h1, h2⟩ := pick_some (w := cnt cs) h
    rw [unr, e]
    exact ⟨x, f, _, rfl, mem_rdg.mp h1, unr_Rd h2⟩
theorem Rd_unr : ∀ {cs : List (List Blk)} {t : Nat} {w : List Blk}, Rd cs t w → ∃ n, n < cnt cs t ∧ unr cs t n = w
  | [], t, w, h => ⟨0, Nat.one_pos, h.symm⟩
  | c :: cs, t, w, ⟨x, f, v, e, h1, h2⟩ => by
    obtain ⟨m, m1, m2⟩ := Rd_unr h2
    obtain ⟨n, n1, n2⟩ := pick_of (w := cnt cs) (mem_rdg.mpr h1) m1 rdg_nodup
    exact ⟨n, n1, by rw [unr, n2, e, ← m2]⟩
/-- a budget of signs for the columns -/
def Fit : List (List Blk) → Nat → Prop
  | [], _ => True
  | c :: cs, m => ∃ u, u ≤ m ∧ (∀ x ∈ c, x.length ≤ u) ∧ Fit cs (m - u)
def enumF {α : Type} (j : Nat) : List α → List (Int × α)
  | [] => []
  | x :: xs => ((j : Int), x) :: enumF (j + 1) xs
theorem enum_zip {α : Type} : ∀ {xs : List α} {j : Nat}, (xs.zipIdx j).map (fun q => ((q.2 : Int), q.1)) = enumF j xs
  | [], _ => rfl
  | x :: xs, j => by rw [List.zipIdx_cons, List.map_cons, enum_zip]; rfl
theorem enumL_F {α : Type} {xs : List α} : enumL xs = enumF 0 xs := enum_zip
theorem content_loop {P : Nat} (hP : P ≤ 100000) {cols : List (List Blk)} (hl : cols.length ≤ 100000) (hc : ∀ c ∈ cols, c.length = P) {K : Int × Str × Int → Res Str} {J : Str → Res Str} (hK : ∀ s, K s = .ok s.2.1) :
    ∀ {cs : List (List Blk)} {b t n m : Nat} {acc : List Nat}, cols.drop b = cs → t ≤ P → n < cnt cs t → acc.length + m ≤ 1000000 → Fit cs m →
      (forR (ρ := Str) (fun (s1 : (Int × Str × Int)) (x2 : Int × List Str) => (m_readings x2.2 s1.2.2).bind fun z5 => (forR (ρ := Str) (fun (s6 : (Int × Str × Int)) x7 => (pix (cntL P cols) (x2.1 + (1 : Int))).bind fun z10 => (pix z10 x7.2).bind fun z11 => cond (decide (s6.1 < z11)) ((pcat s6.2.1 x7.1).bind fun z12 => Res.ok (Ctl.bk (s6.1, z12, x7.2))) (Res.ok (Ctl.nx ((s6.1 - z11), s6.2.1, s6.2.2)))) z5 (s1.1, s1.2.1, s1.2.2)).bind (Ctl.fin (fun s6 => Res.ok (Ctl.nx (s6.1, s6.2.1, s6.2.2))) (fun r => Res.ok (Ctl.rt r)))) (enumF b (cs.map fun c => c.map mk)) ((n : Int), mk acc, (t : Int))).bind (Ctl.fin K J) = .ok (mk (acc ++ (unr cs t n).flatten))
  | [], b, t, n, m, acc, hd, ht, hn, ha, hf => by
    show Ctl.fin K J (.nx _) = _
    rw [fin_nx, hK]
    show Res.ok (mk acc) = Res.ok (mk (acc ++ [].flatten))
    simp
  | c :: cs, b, t, n, m, acc, hd, ht, hn, ha, ⟨u, hu, hx, hf⟩ => by
    have hbl : b < cols.length := by
      have := congrArg List.length hd
      rw [List.length_drop, List.length_cons] at this; omega
    have hcm : c ∈ cols := List.mem_of_mem_drop (i := b) (by rw [hd]; exact List.mem_cons_self)
    have hd' : cols.drop (b + 1) = cs := by rw [← List.drop_drop, hd]; rfl
    have hcl := hc c hcm
    rw [List.map_cons, enumF, forR_cons]
    show (((m_readings (c.map mk) (t : Int)).bind _).bind _).bind _ = _
    rw [readings_val (by omega) (by omega), bind_ok]
    have inner : ∀ (R : List (Blk × Nat)) (n : Nat), (∀ p ∈ R, p ∈ rdg c t) → n < (R.map fun p => cnt cs p.2).sum → ∃ x f k, pick (cnt cs) R n = some (x, f, k) ∧ (x, f) ∈ R ∧ k < cnt cs f ∧
        forR (ρ := Str) (fun (s6 : (Int × Str × Int)) (x7 : Str × Int) => (pix (cntL P cols) ((b : Int) + (1 : Int))).bind fun z10 => (pix z10 x7.2).bind fun z11 => cond (decide (s6.1 < z11)) ((pcat s6.2.1 x7.1).bind fun z12 => Res.ok (Ctl.bk (s6.1, z12, x7.2))) (Res.ok (Ctl.nx ((s6.1 - z11), s6.2.1, s6.2.2)))) (R.map pV) ((n : Int), mk acc, (t : Int)) = .ok (.nx ((k : Int), mk (acc ++ x), (f : Int))) := by
      intro R
      induction R with
      | nil => intro n _ h; simp at h
      | cons p R ih =>
        intro n hR hn
        rw [List.map_cons, List.sum_cons] at hn
        have hpm := hR p List.mem_cons_self
        obtain ⟨y, g⟩ := p
        have hg := nxt_some.mp (mem_rdg.mp hpm)
        have e1 : pix (cntL P cols) ((b : Int) + (1 : Int)) = .ok (rows P cs) := by
          rw [show (b : Int) + 1 = ((b + 1 : Nat) : Int) by omega, pix_nat (cntL_at (by omega)), hd']
        have e2 : pix (rows P cs) (g : Int) = .ok (cnt cs g : Int) := pix_nat (by unfold rows; rw [List.getElem?_map, List.getElem?_range (by omega)]; rfl)
        rw [List.map_cons, forR_cons, e1, bind_ok]
        show ∃ x f k, _ ∧ _ ∧ _ ∧ (((pix (rows P cs) (g : Int)).bind _).bind _) = _
        rw [e2, bind_ok]
        unfold pick
        by_cases h : n < cnt cs g
        · rw [if_pos h]
          refine ⟨y, g, n, rfl, List.mem_cons_self, h, ?_⟩
          have hyl : y.length ≤ u := by
            refine hx y ?_
            rw [← hg.2.2.1, getD_at (by omega)]; exact List.getElem_mem _
          rw [decide_eq_true (show ((n : Int), mk acc, (t : Int)).1 < (cnt cs g : Int) by show (n : Int) < _; omega), cond_true]
          show (((pcat (mk acc) (mk y)).bind _).bind _) = _
          rw [pcat_mk (by rw [mk_len, mk_len]; omega)]
          rfl
        · rw [if_neg h, decide_eq_false (show ¬ ((n : Int), mk acc, (t : Int)).1 < (cnt cs g : Int) by show ¬ (n : Int) < _; omega), cond_false, bind_ok]
          have hn : n < cnt cs g + (R.map fun p => cnt cs p.2).sum := hn
          obtain ⟨x, f, k, i1, i2, i3, i4⟩ := ih (n - cnt cs g) (fun q hq => hR q (List.mem_cons_of_mem _ hq)) (by omega)
          refine ⟨x, f, k, i1, List.mem_cons_of_mem _ i2, i3, ?_⟩
          rw [go_nx]
          show forR _ (R.map pV) ((n : Int) - (cnt cs g : Int), mk acc, (t : Int)) = _
          rw [show (n : Int) - (cnt cs g : Int) = ((n - cnt cs g : Nat) : Int) by omega]
          rw [e1] at i4
          exact i4
    obtain ⟨x, f, k, i1, i2, i3, i4⟩ := inner (rdg c t) n (fun _ h => h) hn
    rw [show ((n : Int), mk acc, (t : Int)).1 = (n : Int) from rfl] at *
    have hg := nxt_some.mp (mem_rdg.mp i2)
    have hxl : x.length ≤ u := by
      refine hx x ?_
      rw [← hg.2.2.1, getD_at (by omega)]; exact List.getElem_mem _
    show (((forR _ ((rdg c t).map pV) ((n : Int), mk acc, (t : Int))).bind _).bind _).bind _ = _
    rw [i4, bind_ok, fin_nx, bind_ok, go_nx, unr, i1]
    rw [content_loop hP hl hc hK (cs := cs) (b := b + 1) (t := f) (n := k) (m := m - u) (acc := acc ++ x) hd' (by omega) i3 (by rw [List.length_append]; omega) hf]
    rw [List.flatten_cons, List.append_assoc]
theorem content_val {P : Nat} (hP : P ≤ 100000) {cols : List (List Blk)} (hl : cols.length ≤ 100000) (hc : ∀ c ∈ cols, c.length = P) {n m : Nat} (hn : n < cnt cols 0) (hm : m ≤ 1000000) (hf : Fit cols m) : m_content_of (cols.map fun c => c.map mk) (cntL P cols) (n : Int) = .ok (mk (unr cols 0 n).flatten) := by
  unfold m_content_of
  rw [enumL_F]
  have := content_loop (K := fun s1 => Res.ok s1.2.1) (J := fun r => Res.ok r) hP hl hc (fun _ => rfl) (cs := cols) (b := 0) (t := 0) (n := n) (m := m) (acc := []) rfl (Nat.zero_le _) hn (by simp; omega) hf
  rw [List.nil_append] at this
  exact this
theorem txt_app {a b : List Nat} (h : TxtS a) (g : TxtS b) : TxtS (a ++ b) := List.all_eq_true.mpr fun x hx => by
  rcases List.mem_append.mp hx with h1 | h1
  · exact List.all_eq_true.mp h x h1
  · exact List.all_eq_true.mp g x h1
theorem okI_L {xs : List Int} : (pyL pyI).ok xs = true := List.all_eq_true.mpr fun _ _ => rfl
theorem bAt_len {k L b : Nat} {s : List Nat} (hs : s.length = L) (hb : b < nB k L) : (bAt k s b).length = min k (L - b * k) := by
  unfold bAt
  rw [getD_at (by rw [blk_nB hs]; exact hb)]
  unfold blk
  rw [List.getElem_map, List.getElem_range, List.length_take, List.length_drop, hs]
theorem nB_cons {k L : Nat} (hk : 1 ≤ k) (hL : 0 < L) : nB k L = nB k (L - k) + 1 := by
  unfold nB
  by_cases h : k ≤ L
  · have e : L + k - 1 = (L - k + k - 1) + k := by omega
    rw [e, Nat.add_div_right _ hk]
  · have e1 : L - k = 0 := by omega
    rw [e1, Nat.div_eq_of_lt (show 0 + k - 1 < k by omega)]
    have e2 : L + k - 1 = (L - 1) + k := by omega
    rw [e2, Nat.add_div_right _ hk, Nat.div_eq_of_lt (by omega)]
theorem nB_zero {k : Nat} (hk : 1 ≤ k) : nB k 0 = 0 := Nat.div_eq_of_lt (by omega)
/-- blocks of the right lengths, put together and cut again -/
theorem reblk {k : Nat} (hk : 1 ≤ k) : ∀ {bs : List (List Nat)} {L : Nat}, bs.length = nB k L → (∀ (b : Nat) (x : List Nat), bs[b]? = some x → x.length = min k (L - b * k)) → bs.flatten.length = L ∧ blk k bs.flatten = bs
  | [], L, hl, _ => by
    have : L = 0 := by
      by_cases h : L = 0
      · exact h
      · rw [nB_cons hk (by omega)] at hl; simp at hl
    subst this
    exact ⟨rfl, blk_nil hk⟩
  | x :: bs, L, hl, hb => by
    have hL : 0 < L := by
      by_cases h : L = 0
      · rw [h, nB_zero hk] at hl; simp at hl
      · omega
    rw [nB_cons hk hL, List.length_cons] at hl
    have hx := hb 0 x rfl
    rw [Nat.zero_mul, Nat.sub_zero] at hx
    obtain ⟨h1, h2⟩ := reblk hk (bs := bs) (L := L - k) (by omega) fun b y hy => by
      have := hb (b + 1) y hy
      rw [Nat.succ_mul] at this
      omega
    have hlen : (x :: bs).flatten.length = L := by rw [List.flatten_cons, List.length_append, h1, hx]; omega
    refine ⟨hlen, ?_⟩
    have hne : (x :: bs).flatten ≠ [] := fun e => by rw [e] at hlen; simp at hlen; omega
    rw [blk_cons hk hne, List.flatten_cons]
    by_cases h : k ≤ L
    · have hxk : x.length = k := by omega
      rw [List.take_append_of_le_length (by omega), List.drop_append_of_le_length (by omega), List.take_of_length_le (by omega), List.drop_eq_nil_of_le (by omega), List.nil_append, h2]
    · have hz : bs.flatten.length = 0 := by omega
      have hz := List.length_eq_zero_iff.mp hz
      rw [hz] at h2 ⊢
      rw [List.append_nil, List.take_of_length_le (by omega), List.drop_eq_nil_of_le (by omega), h2]
/-- the blocks read at the moments f -/
def rdB (k L : Nat) (S : List (List Nat)) (f : Nat → Nat) : List (List Nat) := (List.range (nB k L)).map fun b => bAt k (S.getD (f b) []) b
theorem rd_ok {k L : Nat} (hk : 1 ≤ k) {S : List (List Nat)} (hS : StsOk L S) {f : Nat → Nat} (hf : ∀ b, b < nB k L → f b < S.length) : (rdB k L S f).flatten.length = L ∧ blk k (rdB k L S f).flatten = rdB k L S f := by
  refine reblk hk (by unfold rdB; rw [List.length_map, List.length_range]) fun b x hx => ?_
  unfold rdB at hx
  rw [List.getElem?_map] at hx
  by_cases hb : b < nB k L
  · rw [List.getElem?_range hb] at hx
    cases hx
    exact bAt_len ((hS.s _ (by rw [getD_at (hf b hb)]; exact List.getElem_mem _)).1) hb
  · rw [List.getElem?_eq_none (by rw [List.length_range]; omega)] at hx; cases hx
theorem rd_at {k L : Nat} (hk : 1 ≤ k) {S : List (List Nat)} (hS : StsOk L S) {f : Nat → Nat} (hf : ∀ b, b < nB k L → f b < S.length) {b : Nat} (hb : b < nB k L) : bAt k (rdB k L S f).flatten b = bAt k (S.getD (f b) []) b := by
  unfold bAt
  rw [(rd_ok hk hS hf).2]
  unfold rdB
  rw [getD_at (by rw [List.length_map, List.length_range]; exact hb), List.getElem_map, List.getElem_range]; rfl
theorem bAt_txt {k b : Nat} {s : List Nat} (h : TxtS s) : TxtS (bAt k s b) := by
  unfold bAt blk
  by_cases hb : b < (s.length + k - 1) / k
  · rw [getD_at (by rw [List.length_map, List.length_range]; exact hb), List.getElem_map, List.getElem_range]
    exact List.all_eq_true.mpr fun x hx => List.all_eq_true.mp h x (List.mem_of_mem_drop (List.mem_of_mem_take hx))
  · have : (List.map (fun i => (s.drop (i * k)).take k) (List.range ((s.length + k - 1) / k))).getD b [] = [] := by
      simp only [List.getD]
      rw [List.getElem?_eq_none (by rw [List.length_map, List.length_range]; omega)]; rfl
    rw [this]; rfl
theorem least_val' {n l : Int} (h : l ≤ n) : m_check_least n l = .ok () := by
  unfold m_check_least
  rw [show m_is_whole n = .ok true from rfl, bind_ok, cond_true, decide_eq_false (by omega)]; rfl
theorem asked_val {l : List Nat} {ws : List Wr} {n : Int} (hn : SzOk n) : m_check_asked (hisV l ws) n = .ok () := by
  unfold m_check_asked
  rw [show m_check_history (hisV l ws) = .ok () from rfl, bind_ok, least_val' hn.1]; rfl
theorem within_val {v a b : Int} (h1 : a ≤ v) (h2 : v ≤ b) : m_check_within v a b = .ok () := by
  unfold m_check_within
  rw [show m_is_whole v = .ok true from rfl, bind_ok, cond_true, decide_eq_true h1, cond_true, bind_ok, decide_eq_true h2]; rfl
/-- what can be read from t on, block by block -/
def Rds : List (List Blk) → Nat → List Blk → Prop
  | [], _, w => w = []
  | c :: cs, t, w => ∃ i v, w = c.getD i [] :: v ∧ t ≤ i ∧ i < c.length ∧ Rds cs i v
theorem Rds_low : ∀ {cs : List (List Blk)} {t u : Nat} {w : List Blk}, u ≤ t → Rds cs t w → Rds cs u w
  | [], _, _, _, _, h => h
  | c :: cs, t, u, w, h, ⟨i, v, e, h1, h2, h3⟩ => ⟨i, v, e, by omega, h2, h3⟩
theorem Rd_Rds : ∀ {cs : List (List Blk)} {t : Nat} {w : List Blk}, Rd cs t w ↔ Rds cs t w
  | [], _, _ => Iff.rfl
  | c :: cs, t, w => by
    constructor
    · rintro ⟨x, f, v, e, h1, h2⟩
      obtain ⟨g1, g2, g3, _⟩ := nxt_some.mp h1
      exact ⟨f, v, by rw [g3]; exact e, g1, g2, Rd_Rds.mp h2⟩
    · rintro ⟨i, v, e, h1, h2, h3⟩
      obtain ⟨f, f1, f2⟩ := nxt_of h1 h2
      exact ⟨_, f, v, e, f1, Rd_Rds.mpr (Rds_low f2 h3)⟩
/-- the columns of rows -/
def colB (k L : Nat) (P : List (List Nat)) : List (List Blk) := (List.range (nB k L)).map fun b => P.map fun s => bAt k s b
theorem colB_len {k L : Nat} {P : List (List Nat)} : (colB k L P).length = nB k L := by unfold colB; rw [List.length_map, List.length_range]
theorem colB_all {k L : Nat} {P : List (List Nat)} : ∀ c ∈ colB k L P, c.length = P.length := fun c hc => by
  obtain ⟨b, _, rfl⟩ := List.mem_map.mp hc
  rw [List.length_map]
theorem colsL_B {k L : Nat} {P : List (List Nat)} : colsL k L P = (colB k L P).map fun c => c.map mk := by
  unfold colsL colB
  rw [List.map_map]
  refine List.map_congr_left fun b _ => ?_
  show _ = (P.map fun s => bAt k s b).map mk
  rw [List.map_map]; rfl
/-- the copies -/
def Cp (k L : Nat) (P : List (List Nat)) (c : List Nat) : Prop := ∃ w, Rds (colB k L P) 0 w ∧ c = w.flatten
theorem Rds_times {k : Nat} {P : List (List Nat)} : ∀ {m b t : Nat} {w : List Blk}, Rds ((List.range m).map fun i => P.map fun s => bAt k s (b + i)) t w → w.length = m ∧ ∀ (i : Nat) (x : Blk), w[i]? = some x → ∃ u, u < P.length ∧ x = bAt k (P.getD u []) (b + i)
  | 0, b, t, w, h => by
    have h : w = [] := h
    subst h; exact ⟨rfl, fun i x h => by simp at h⟩
  | m + 1, b, t, w, h => by
    rw [List.range_succ_eq_map, List.map_cons, List.map_map] at h
    obtain ⟨u, v, e, h1, h2, h3⟩ := h
    rw [List.length_map] at h2
    have h3' : Rds ((List.range m).map fun i => P.map fun s => bAt k s (b + 1 + i)) u v := by
      have e2 : (List.range m).map ((fun i => P.map fun s => bAt k s (b + i)) ∘ Nat.succ) = (List.range m).map fun i => P.map fun s => bAt k s (b + 1 + i) := List.map_congr_left fun i _ => by
        show P.map (fun s => bAt k s (b + (i + 1))) = _
        rw [show b + (i + 1) = b + 1 + i by omega]
      rwa [e2] at h3
    obtain ⟨g1, g2⟩ := Rds_times h3'
    subst e
    refine ⟨by rw [List.length_cons, g1], fun i x hx => ?_⟩
    cases i with
    | zero =>
      rw [List.getElem?_cons_zero] at hx
      cases hx
      refine ⟨u, h2, ?_⟩
      rw [getD_at (by rw [List.length_map]; exact h2), List.getElem_map, getD_at h2]
    | succ i =>
      rw [List.getElem?_cons_succ] at hx
      obtain ⟨u', u1, u2⟩ := g2 i x hx
      exact ⟨u', u1, by rw [u2, show b + 1 + i = b + (i + 1) by omega]⟩
theorem colB_0 {k L : Nat} {P : List (List Nat)} : colB k L P = (List.range (nB k L)).map fun i => P.map fun s => bAt k s (0 + i) := by
  unfold colB
  exact List.map_congr_left fun i _ => by rw [Nat.zero_add]
theorem Rds_re {k L : Nat} (hk : 1 ≤ k) {P : List (List Nat)} (hP : StsOk L P) {t : Nat} {w : List Blk} (h : Rds (colB k L P) t w) : w.flatten.length = L ∧ blk k w.flatten = w := by
  rw [colB_0] at h
  obtain ⟨h1, h2⟩ := Rds_times h
  refine reblk hk h1 fun b x hx => ?_
  have hb : b < nB k L := by rw [← h1]; exact (List.getElem?_eq_some_iff.mp hx).1
  obtain ⟨u, u1, u2⟩ := h2 b x hx
  rw [u2, Nat.zero_add]
  exact bAt_len (hP.s _ (by rw [getD_at u1]; exact List.getElem_mem u1)).1 hb
/-- the first torn copy among the first ones -/
def tornF (k L : Nat) (S P : List (List Nat)) : Option (List Nat) := ((List.range (min (cnt (colB k L P) 0) (S.length + 1))).map fun i => (unr (colB k L P) 0 i).flatten).find? fun c => decide (c ∉ S)
theorem unr_rds {k L : Nat} {P : List (List Nat)} {i : Nat} (h : i < cnt (colB k L P) 0) : Rds (colB k L P) 0 (unr (colB k L P) 0 i) := Rd_Rds.mp (unr_Rd h)
theorem cp_unr {k L : Nat} {P : List (List Nat)} {c : List Nat} : Cp k L P c ↔ ∃ i, i < cnt (colB k L P) 0 ∧ c = (unr (colB k L P) 0 i).flatten := by
  constructor
  · rintro ⟨w, h, e⟩
    obtain ⟨n, n1, n2⟩ := Rd_unr (Rd_Rds.mpr h)
    exact ⟨n, n1, by rw [n2]; exact e⟩
  · rintro ⟨i, hi, e⟩
    exact ⟨_, unr_rds hi, e⟩
/-- the part of the moments, in the order of reading -/
def part (S : List (List Nat)) (f l : Nat) (down : Bool) : List (List Nat) := if down then ((S.drop f).take (l + 1 - f)).reverse else (S.drop f).take (l + 1 - f)
theorem fit_of {k : Nat} {P : List (List Nat)} : ∀ {m b M : Nat}, (∀ s ∈ P, s.length ≤ b * k + M) → Fit ((List.range m).map fun i => P.map fun s => bAt k s (b + i)) M := by
  intro m
  induction m with
  | zero => intro b M _; exact trivial
  | succ m ih =>
    intro b M h
    rw [List.range_succ_eq_map, List.map_cons, List.map_map]
    refine ⟨min k M, by omega, fun x hx => ?_, ?_⟩
    · obtain ⟨s, hs, rfl⟩ := List.mem_map.mp hx
      have := h s hs
      show (bAt k s (b + 0)).length ≤ _
      unfold bAt
      by_cases g : b < (blk k s).length
      · rw [Nat.add_zero]
        have e : (blk k s).getD b [] = (s.drop (b * k)).take k := by
          have g' := g
          rw [blk_len] at g'
          unfold blk
          rw [List.getD_eq_getElem?_getD, List.getElem?_map, List.getElem?_range g']; rfl
        rw [e, List.length_take, List.length_drop]; omega
      · rw [Nat.add_zero, List.getD_eq_getElem?_getD, List.getElem?_eq_none (by omega)]; exact Nat.zero_le _
    · have e2 : (List.range m).map ((fun i => P.map fun s => bAt k s (b + i)) ∘ Nat.succ) = (List.range m).map fun i => P.map fun s => bAt k s (b + 1 + i) := List.map_congr_left fun i _ => by
        show P.map (fun s => bAt k s (b + (i + 1))) = _
        rw [show b + (i + 1) = b + 1 + i by omega]
      rw [e2]
      refine ih fun s hs => ?_
      have := h s hs
      have e3 : (b + 1) * k = b * k + k := Nat.succ_mul b k
      omega
theorem Rds_txt {k L : Nat} {P : List (List Nat)} (hP : StsOk L P) {t : Nat} {w : List Blk} (h : Rds (colB k L P) t w) : TxtS w.flatten := by
  rw [colB_0] at h
  obtain ⟨_, h2⟩ := Rds_times h
  refine List.all_eq_true.mpr fun x hx => ?_
  obtain ⟨y, hy, hxy⟩ := List.mem_flatten.mp hx
  obtain ⟨i, hi, e⟩ := List.getElem_of_mem hy
  obtain ⟨u, u1, u2⟩ := h2 i y (by rw [List.getElem?_eq_getElem hi, e])
  rw [u2] at hxy
  exact List.all_eq_true.mp (bAt_txt (hP.s _ (by rw [getD_at u1]; exact List.getElem_mem u1)).2) x hxy
/-- is there a torn copy from f to l -/
def tb (k L : Nat) (S : List (List Nat)) (down : Bool) (f l : Nat) : Bool := (tornF k L S (part S f l down)).isSome
theorem rangeL_map {m : Nat} : rangeL 0 m = (List.range m).map Int.ofNat := by
  unfold rangeL
  exact List.map_congr_left fun i _ => by rw [Int.zero_add]; rfl
theorem law_blocks_val {z : Str} {n : Int} (hn : SzOk n) (hl : z.length ≤ 1000000) : m_law_blocks z n = .ok ((blk n.toNat (signsL z)).map mk) := (show m_law_blocks z n = m_blocks_of z n from rfl).trans (blocks_val hn hl)
theorem law_rows_val {S : List (List Nat)} {L : Nat} {n : Int} (hS : StsOk L S) (hn : SzOk n) : compR (β := List Str) (fun x1 => (m_law_blocks x1 n).bind fun z2 => Res.ok (some z2)) (S.map mk) = .ok (S.map fun s => (blk n.toNat s).map mk) := rows_val hS hn
/-- the earliest reading: block after block of the order -/
def earlyF (n : Nat) (hit : Nat → Nat → Bool) : List Nat → Nat → List Nat → Option (List Nat) × Option (Nat × Nat)
  | [], _, ms => (some ms, none)
  | b :: bs, last, ms => match fits n last (hit b) with
    | [] => (none, some (b, last))
    | t :: _ => earlyF n hit bs t (ms.set b t)
def evI (x : Option (List Nat) × Option (Nat × Nat)) : Option (List Int) × Option (Int × Int) := (x.1.map fun l => l.map Int.ofNat, x.2.map fun p => ((p.1 : Int), (p.2 : Int)))
theorem early_loop {n nb : Nat} {hit : Nat → Nat → Bool} {f : Int × List Int → Int → Res (Ctl (Int × List Int) (Option (List Int) × Option (Int × Int)))} {K : Int × List Int → Res (Option (List Int) × Option (Int × Int))} {J : Option (List Int) × Option (Int × Int) → Res (Option (List Int) × Option (Int × Int))}
    (hf : ∀ (b last : Nat) (ms : List Nat), b < nb → last ≤ n → ms.length = nb → f ((last : Int), ms.map Int.ofNat) (b : Int) = match fits n last (hit b) with
      | [] => .ok (.rt (none, some ((b : Int), (last : Int))))
      | t :: _ => .ok (.nx ((t : Int), (ms.set b t).map Int.ofNat)))
    (hK : ∀ s, K s = .ok (some s.2, none)) (hJ : ∀ r, J r = .ok r) :
    ∀ {bs : List Nat} {last : Nat} {ms : List Nat}, (∀ b ∈ bs, b < nb) → last ≤ n → ms.length = nb → (forR f (bs.map Int.ofNat) ((last : Int), ms.map Int.ofNat)).bind (Ctl.fin K J) = .ok (evI (earlyF n hit bs last ms))
  | [], last, ms, _, _, _ => by
    show Ctl.fin K J (.nx ((last : Int), ms.map Int.ofNat)) = _
    rw [fin_nx, hK]; rfl
  | b :: bs, last, ms, hb, hl, hm => by
    rw [List.map_cons, forR_cons]
    have e := hf b last ms (hb b List.mem_cons_self) hl hm
    rw [show Int.ofNat b = (b : Int) from rfl, e, earlyF]
    cases h : fits n last (hit b) with
    | nil => show (Ctl.fin K J (.rt _)) = _; rw [fin_rt, hJ]; rfl
    | cons t r =>
      show (forR f (bs.map Int.ofNat) ((t : Int), (ms.set b t).map Int.ofNat)).bind (Ctl.fin K J) = _
      exact early_loop hf hK hJ (fun c hc => hb c (List.mem_cons_of_mem _ hc)) (Nat.le_of_lt (fits_head h).2.1) (by rw [List.length_set]; exact hm)
/-- the order of reading -/
def ordL (nb : Nat) (down : Bool) : List Nat := if down then (List.range nb).reverse else List.range nb
theorem ordL_mem {nb b : Nat} {down : Bool} : b ∈ ordL nb down ↔ b < nb := by unfold ordL; split <;> simp
/-- does block b read so at t -/
def hitB (k : Nat) (S : List (List Nat)) (c : List Nat) (b t : Nat) : Bool := decide (bAt k (S.getD t []) b = bAt k c b)
def earlyS (k L : Nat) (S : List (List Nat)) (c : List Nat) (down : Bool) : Option (List Nat) × Option (Nat × Nat) := earlyF S.length (hitB k S c) (ordL (nB k L) down) 0 (List.replicate (nB k L) 0)
theorem rangeL_ofNat {m : Nat} : rangeL 0 m = (List.range m).map Int.ofNat := by unfold rangeL; exact List.map_congr_left fun i _ => by show (0 : Int) + (i : Int) = (i : Int); omega
theorem plrng_val {m : Nat} (h : m ≤ 100000) : plrng (m : Int) = .ok ((List.range m).map Int.ofNat) := by
  unfold plrng
  rw [guard_ok ⟨by omega, by omega⟩, Int.toNat_natCast, rangeL_ofNat]
theorem zeros_val {α : Type} {xs : List α} (h : xs.length ≤ 100000) : compR (β := Int) (fun _ => Res.ok (some (0 : Int))) xs = .ok ((List.replicate xs.length 0).map Int.ofNat) := by
  rw [compR_map (fun _ => (0 : Int)) (by rw [sz]; omega) fun _ _ => rfl, List.map_const', List.map_replicate]; rfl
theorem zeros_nat {m : Nat} {bs : List Nat} (hb : bs.length = m) (h : m ≤ 100000) : compR (β := Int) (fun _ => Res.ok (some (0 : Int))) (bs.map Int.ofNat) = .ok ((List.replicate m 0).map Int.ofNat) := by
  rw [zeros_val (by rw [List.length_map]; omega), List.length_map, hb]
theorem ordL_len {nb : Nat} {down : Bool} : (ordL nb down).length = nb := by unfold ordL; split <;> simp
theorem ord_val {nb : Nat} {down : Bool} : (cond down (Res.ok ((List.range nb).map Int.ofNat).reverse) (Res.ok ((List.range nb).map Int.ofNat))) = .ok ((ordL nb down).map Int.ofNat) := by
  unfold ordL
  cases down with
  | true => simp
  | false => rfl
theorem pset_val {ms : List Nat} {b t : Nat} (h : b < ms.length) : pset (ms.map Int.ofNat) (b : Int) (t : Int) = .ok ((ms.set b t).map Int.ofNat) := by
  unfold pset
  have e : ixN (ms.map Int.ofNat).length (b : Int) = some b := by
    unfold ixN
    rw [if_pos (by omega), if_pos (by rw [List.length_map]; omega)]; simp
  rw [e]
  show Res.ok _ = Res.ok _
  rw [List.map_set]; rfl
theorem col_at {k L : Nat} {S : List (List Nat)} {b : Nat} (hb : b < nB k L) : pix (colsL k L S) (b : Int) = .ok (S.map fun s => mk (bAt k s b)) := by
  rw [pix_nat (x := S.map fun s => mk (bAt k s b))]
  unfold colsL
  rw [List.getElem?_map, List.getElem?_range hb]; rfl
theorem blkmk_at {k : Nat} {c : List Nat} {b : Nat} (hb : b < (blk k c).length) : pix ((blk k c).map mk) (b : Int) = .ok (mk (bAt k c b)) := by
  rw [pix_nat (x := mk (bAt k c b))]
  unfold bAt
  rw [List.getElem?_map, List.getElem?_eq_getElem hb, getD_at hb]; rfl
theorem early_body {k n nb last b : Nat} {S : List (List Nat)} {c : List Nat} {ms : List Nat} (hb : b < nb) (hm : ms.length = nb) :
    (cond ((fits n last (hitB k S c b)).map Int.ofNat).isEmpty (Res.ok (Ctl.rt (none, some ((b : Int), (last : Int))))) ((pix ((fits n last (hitB k S c b)).map Int.ofNat) (0 : Int)).bind fun z20 => (pset (ms.map Int.ofNat) (b : Int) z20).bind fun z21 => Res.ok (Ctl.nx (z20, z21)))) =
      (match fits n last (hitB k S c b) with
      | [] => .ok (.rt (none, some ((b : Int), (last : Int))))
      | t :: _ => .ok (.nx ((t : Int), (ms.set b t).map Int.ofNat)) : Res (Ctl (Int × List Int) (Option (List Int) × Option (Int × Int)))) := by
  cases h : fits n last (hitB k S c b) with
  | nil => rfl
  | cons t r =>
    have e : pix ((t :: r).map Int.ofNat) (0 : Int) = .ok (t : Int) := pix_nat (i := 0) rfl
    show ((pix ((t :: r).map Int.ofNat) (0 : Int)).bind _) = _
    rw [e, bind_ok, pset_val (by omega)]; rfl
theorem hit_body {k L n b t : Nat} {S : List (List Nat)} {c : List Nat} (hn : n = S.length) (ht : t < n) {α : Type} {x : α} : (cond (decide (mk (bAt k (S.getD t []) b) = mk (bAt k c b))) (Res.ok (some x)) (Res.ok none)) = .ok (if hitB k S c b t then some x else none) := by
  unfold hitB
  rw [mk_dec]
  cases decide (bAt k (S.getD t []) b = bAt k c b) <;> rfl
theorem earliest_val {l : List Nat} {ws : List Wr} (h : HistOk l ws) {n : Int} (hn : SzOk n) {c : List Nat} (hc : c.length = l.length) {down : Bool} : m_earliest (hisV l ws) n (mk c) down = .ok (evI (earlyS n.toNat l.length (sts l ws) c down)) := by
  have hS := sts_ok h
  have hk : 1 ≤ n.toNat := by have := hn.1; omega
  have hL := h.n
  have hnb := nB_le (L := l.length) hk
  have hbl : (blk n.toNat c).length = nB n.toNat l.length := blk_nB hc
  unfold m_earliest
  rw [states_val h, bind_ok, columns_val hS hn, bind_ok, blocks_val hn (by rw [mk_len]; omega), bind_ok, signs_mk]
  have hcl : (colsL n.toNat l.length (sts l ws)).length = nB n.toNat l.length := by unfold colsL; rw [List.length_map, List.length_range]
  rw [hcl, plrng_val (by omega), bind_ok, zeros_nat (m := nB n.toNat l.length) List.length_range (by omega), bind_ok, ord_val, bind_ok]
  refine early_loop (last := 0) (hit := hitB n.toNat (sts l ws) c) (fun b last ms hb hl hm => ?_) (fun _ => rfl) (fun _ => rfl) (fun b hb => ordL_mem.mp hb) (Nat.zero_le _) (by rw [List.length_replicate])
  have h1 := hS.n
  have hlen : ((sts l ws).map fun s => mk (bAt n.toNat s b)).length = (sts l ws).length := List.length_map _
  rw [col_at hb, bind_ok, hlen, guard_ok (show small62 (last : Int) ∧ small62 ((sts l ws).length : Int) from ⟨small62_of (by omega) (by omega), small62_of (by omega) (by omega)⟩), bind_ok,
    fits_comp (p := hitB n.toNat (sts l ws) c b) (by omega) (fun t t1 t2 => by
      rw [bind_ok, map_at (d := []) t2, bind_ok, blkmk_at (by rw [hbl]; exact hb), bind_ok, hit_body (L := l.length) rfl t2]), bind_ok]
  exact early_body hb hm
theorem law_early_val {L : Nat} {S : List (List Nat)} (hS : StsOk L S) {n : Int} (hn : SzOk n) {c : List Nat} (hc : c.length = L) {down : Bool} : m_law_early (S.map mk) n (mk c) down = .ok (evI (earlyS n.toNat L S c down)) := by
  have hk : 1 ≤ n.toNat := by have := hn.1; omega
  have hL := hS.l
  have hnb := nB_le (L := L) hk
  have hbl : (blk n.toNat c).length = nB n.toNat L := blk_nB hc
  unfold m_law_early
  rw [law_blocks_val hn (by rw [mk_len]; omega), bind_ok, signs_mk, law_rows_val hS hn, bind_ok, show ((blk n.toNat c).map mk).length = nB n.toNat L by rw [List.length_map, hbl], plrng_val (by omega), bind_ok, ord_val, bind_ok]
  rw [zeros_nat (m := nB n.toNat L) ordL_len (by omega), bind_ok]
  refine early_loop (last := 0) (hit := hitB n.toNat S c) (fun b last ms hb hl hm => ?_) (fun _ => rfl) (fun _ => rfl) (fun b hb => ordL_mem.mp hb) (Nat.zero_le _) (by rw [List.length_replicate])
  have h1 := hS.n
  rw [List.length_map, guard_ok (show small62 (last : Int) ∧ small62 (S.length : Int) from ⟨small62_of (by omega) (by omega), small62_of (by omega) (by omega)⟩), bind_ok,
    fits_comp (p := hitB n.toNat S c b) (by omega) (fun t t1 t2 => by
      rw [map_at (d := []) t2, bind_ok, blkmk_at (by
        have : S.getD t [] ∈ S := by rw [getD_at t2]; exact List.getElem_mem t2
        rw [blk_nB (hS.s _ this).1]; exact hb), bind_ok, blkmk_at (by rw [hbl]; exact hb), bind_ok, hit_body (L := L) rfl t2]), bind_ok]
  exact early_body hb hm
theorem late_val {l : List Nat} {ws : List Wr} (h : HistOk l ws) {n : Int} (hn : SzOk n) {c : List Nat} (hc : c.length = l.length) (ht : TxtS c) {down : Bool} : m_late_block (hisV l ws) n (mk c) down = .ok (evI (earlyS n.toNat l.length (sts l ws) c down)).2 := by
  unfold m_late_block
  rw [asked_val hn, bind_ok, check_content_val h ht hc, bind_ok, earliest_val h hn hc]; rfl
/-- the earliest reading reads where some reading does, no later -/
theorem early_greedy {n : Nat} {hit : Nat → Nat → Bool} (m : Nat → Nat) : ∀ {bs : List Nat} {last : Nat} {ms : List Nat}, bs.Nodup → (∀ b ∈ bs, b < ms.length ∧ m b < n ∧ last ≤ m b ∧ hit b (m b) = true) → bs.Pairwise (fun a b => m a ≤ m b) →
    ∃ ms', earlyF n hit bs last ms = (some ms', none) ∧ ms'.length = ms.length ∧ (∀ b ∈ bs, ms'.getD b 0 ≤ m b) ∧ ∀ b, b ∉ bs → ms'.getD b 0 = ms.getD b 0
  | [], last, ms, _, _, _ => ⟨ms, rfl, rfl, (fun b hb => by simp at hb), fun b _ => rfl⟩
  | b :: bs, last, ms, nd, hb, pw => by
    obtain ⟨b1, b2, b3, b4⟩ := hb b List.mem_cons_self
    have hin : m b ∈ fits n last (hit b) := mem_fits.mpr ⟨b3, b2, b4⟩
    rw [earlyF]
    cases h : fits n last (hit b) with
    | nil => rw [h] at hin; simp at hin
    | cons t r =>
      obtain ⟨t1, t2, t3, t4⟩ := fits_head h
      have tm : t ≤ m b := t4 _ b3 b2 b4
      have nd' := List.nodup_cons.mp nd
      have pw' := List.pairwise_cons.mp pw
      obtain ⟨ms', e, e2, e3, e4⟩ := early_greedy (n := n) (hit := hit) m (bs := bs) (last := t) (ms := ms.set b t) nd'.2 (fun c hc => by
        have := hb c (List.mem_cons_of_mem _ hc)
        have := pw'.1 c hc
        exact ⟨by rw [List.length_set]; omega, by omega, by omega, (hb c (List.mem_cons_of_mem _ hc)).2.2.2⟩) pw'.2
      refine ⟨ms', e, by rw [e2, List.length_set], fun c hc => ?_, fun c hc => ?_⟩
      · rcases List.mem_cons.mp hc with rfl | hc
        · rw [e4 c nd'.1]
          have : (ms.set c t).getD c 0 = t := by rw [getD_at (by rw [List.length_set]; exact b1), List.getElem_set_self]
          omega
        · exact e3 c hc
      · have c1 : c ≠ b := fun e => hc (by rw [e]; exact List.mem_cons_self)
        rw [e4 c fun h => hc (List.mem_cons_of_mem _ h)]
        simp only [List.getD]
        rw [List.getElem?_set_ne (Ne.symm c1)]
/-- how the earliest reading ends -/
theorem early_end {n : Nat} {hit : Nat → Nat → Bool} : ∀ {bs : List Nat} {last : Nat} {ms : List Nat}, (∃ ms', earlyF n hit bs last ms = (some ms', none) ∧ ms'.length = ms.length) ∨ ∃ p, earlyF n hit bs last ms = (none, some p)
  | [], last, ms => .inl ⟨ms, rfl, rfl⟩
  | b :: bs, last, ms => by
    rw [earlyF]
    cases h : fits n last (hit b) with
    | nil => exact .inr ⟨_, rfl⟩
    | cons t r =>
      rcases early_end (n := n) (hit := hit) (bs := bs) (last := t) (ms := ms.set b t) with ⟨ms', e, e2⟩ | h
      · exact .inl ⟨ms', e, by rw [e2, List.length_set]⟩
      · exact .inr h
theorem ordL_nodup {nb : Nat} {down : Bool} : (ordL nb down).Nodup := by
  unfold ordL; split
  · exact (List.reverse_perm _).nodup_iff.mpr List.nodup_range
  · exact List.nodup_range
/-- moments that never fall in the order of reading -/
def Rises (nb : Nat) (down : Bool) (m : Nat → Nat) : Prop := ∀ a b, a < b → b < nb → if down then m b ≤ m a else m a ≤ m b
theorem rises_pw {nb : Nat} {down : Bool} {m : Nat → Nat} (h : Rises nb down m) : (ordL nb down).Pairwise fun a b => m a ≤ m b := by
  unfold ordL
  cases down with
  | true =>
    rw [if_pos rfl, List.pairwise_reverse]
    refine List.Pairwise.imp_of_mem ?_ List.pairwise_lt_range
    intro a b ha hb hab
    have := h a b hab (List.mem_range.mp hb)
    simpa using this
  | false =>
    rw [if_neg (by decide)]
    refine List.Pairwise.imp_of_mem ?_ List.pairwise_lt_range
    intro a b ha hb hab
    have := h a b hab (List.mem_range.mp hb)
    simpa using this
theorem early_of_read {k L : Nat} (hk : 1 ≤ k) {S : List (List Nat)} (hS : StsOk L S) {down : Bool} {m : Nat → Nat} (hr : Rises (nB k L) down m) (hm : ∀ b, b < nB k L → m b < S.length) :
    ∃ ms, earlyS k L S (rdB k L S m).flatten down = (some ms, none) ∧ ms.length = nB k L ∧ ∀ b, b < nB k L → ms.getD b 0 ≤ m b := by
  obtain ⟨ms, e, e2, e3, _⟩ := early_greedy (n := S.length) (hit := hitB k S (rdB k L S m).flatten) m (bs := ordL (nB k L) down) (last := 0) (ms := List.replicate (nB k L) 0) ordL_nodup (fun b hb => by
    have hb := ordL_mem.mp hb
    refine ⟨by rw [List.length_replicate]; exact hb, hm b hb, Nat.zero_le _, ?_⟩
    unfold hitB
    rw [rd_at hk hS hm hb]; simp) (rises_pw hr)
  exact ⟨ms, e, by rw [e2, List.length_replicate], fun b hb => e3 b (ordL_mem.mpr hb)⟩
/-- what is read when block b is read at f b -/
def rdF (m : Nat) (P : List (List Nat)) (g : Nat → List Nat → Blk) (f : Nat → Nat) : List Blk := (List.range m).map fun i => g i (P.getD (f i) [])
def colG (m : Nat) (P : List (List Nat)) (g : Nat → List Nat → Blk) : List (List Blk) := (List.range m).map fun i => P.map (g i)
theorem colG_succ {m : Nat} {P : List (List Nat)} {g : Nat → List Nat → Blk} : colG (m + 1) P g = P.map (g 0) :: colG m P fun i => g (i + 1) := by
  unfold colG
  rw [List.range_succ_eq_map, List.map_cons, List.map_map]; rfl
theorem rdF_succ {m : Nat} {P : List (List Nat)} {g : Nat → List Nat → Blk} {f : Nat → Nat} : rdF (m + 1) P g f = g 0 (P.getD (f 0) []) :: rdF m P (fun i => g (i + 1)) fun i => f (i + 1) := by
  unfold rdF
  rw [List.range_succ_eq_map, List.map_cons, List.map_map]; rfl
def Mono (m t n : Nat) (f : Nat → Nat) : Prop := (∀ i, i < m → t ≤ f i ∧ f i < n) ∧ ∀ i, i + 1 < m → f i ≤ f (i + 1)
theorem map_getD {P : List (List Nat)} {g : List Nat → Blk} {i : Nat} (h : i < P.length) : (P.map g).getD i [] = g (P.getD i []) := by
  rw [getD_at (by rw [List.length_map]; exact h), List.getElem_map, getD_at h]
theorem Rds_F : ∀ {m : Nat} {P : List (List Nat)} {g : Nat → List Nat → Blk} {t : Nat} {w : List Blk}, Rds (colG m P g) t w ↔ ∃ f, Mono m t P.length f ∧ w = rdF m P g f
  | 0, P, g, t, w => by
    constructor
    · intro h
      exact ⟨fun _ => 0, ⟨fun i hi => by omega, fun i hi => by omega⟩, h⟩
    · rintro ⟨f, _, e⟩; exact e
  | m + 1, P, g, t, w => by
    rw [colG_succ]
    constructor
    · rintro ⟨i, v, e, h1, h2, h3⟩
      rw [List.length_map] at h2
      obtain ⟨f, ⟨f1, f2⟩, f3⟩ := Rds_F.mp h3
      refine ⟨fun j => match j with | 0 => i | j + 1 => f j, ⟨fun j hj => ?_, fun j hj => ?_⟩, ?_⟩
      · cases j with
        | zero => exact ⟨h1, h2⟩
        | succ j => have := f1 j (by omega); exact ⟨by show t ≤ f j; omega, by show f j < _; omega⟩
      · cases j with
        | zero => exact (f1 0 (by omega)).1
        | succ j => exact f2 j (by omega)
      · rw [rdF_succ, e, map_getD h2, f3]
    · rintro ⟨f, ⟨f1, f2⟩, e⟩
      rw [rdF_succ] at e
      obtain ⟨a1, a2⟩ := f1 0 (by omega)
      refine ⟨f 0, _, by rw [map_getD a2]; exact e, a1, by rw [List.length_map]; exact a2, Rds_F.mpr ⟨fun i => f (i + 1), ⟨fun i hi => ?_, fun i hi => f2 (i + 1) (by omega)⟩, rfl⟩⟩
      have : ∀ j, j < m + 1 → f 0 ≤ f j := by
        intro j
        induction j with
        | zero => intro _; exact Nat.le_refl _
        | succ j ih => intro hj; have := ih (by omega); have := f2 j hj; omega
      exact ⟨this (i + 1) (by omega), (f1 (i + 1) (by omega)).2⟩
theorem colB_G {k L : Nat} {P : List (List Nat)} : colB k L P = colG (nB k L) P fun b s => bAt k s b := rfl
theorem cp_F {k L : Nat} {P : List (List Nat)} {c : List Nat} : Cp k L P c ↔ ∃ f, Mono (nB k L) 0 P.length f ∧ c = (rdF (nB k L) P (fun b s => bAt k s b) f).flatten := by
  unfold Cp
  rw [colB_G]
  constructor
  · rintro ⟨w, h, e⟩
    obtain ⟨f, f1, f2⟩ := Rds_F.mp h
    exact ⟨f, f1, by rw [e, f2]⟩
  · rintro ⟨f, f1, f2⟩
    exact ⟨_, Rds_F.mpr ⟨f, f1, rfl⟩, f2⟩
theorem mono_lt {m t n : Nat} {f : Nat → Nat} (h : Mono m t n f) : ∀ {a b : Nat}, a ≤ b → b < m → f a ≤ f b := by
  intro a b
  induction b with
  | zero => intro h1 _; rw [show a = 0 by omega]; exact Nat.le_refl _
  | succ b ih =>
    intro h1 h2
    by_cases e : a = b + 1
    · rw [e]; exact Nat.le_refl _
    · have := ih (by omega) (by omega)
      have := h.2 b h2; omega
theorem range_rev {α : Type} {n : Nat} {G : Nat → α} : ((List.range n).map G).reverse = (List.range n).map fun i => G (n - 1 - i) := by
  refine List.ext_getElem (by simp) fun i h1 h2 => ?_
  simp at h1
  simp
theorem sts_turn {L : Nat} {S : List (List Nat)} (h : StsOk L S) : StsOk L S.reverse := ⟨by rw [List.length_reverse]; exact h.ne, by rw [List.length_reverse]; exact h.n, h.l, fun s hs => h.s s (List.mem_reverse.mp hs)⟩
def dirS (S : List (List Nat)) (down : Bool) : List (List Nat) := if down then S.reverse else S
theorem dir_ok {L : Nat} {S : List (List Nat)} (h : StsOk L S) {down : Bool} : StsOk L (dirS S down) := by
  unfold dirS
  cases down with
  | true => exact sts_turn h
  | false => exact h
theorem dir_len {S : List (List Nat)} {down : Bool} : (dirS S down).length = S.length := by unfold dirS; cases down <;> simp
theorem fit_B {k L : Nat} {P : List (List Nat)} (hP : StsOk L P) : Fit (colB k L P) L := by
  rw [colB_0]
  exact fit_of fun s hs => by rw [(hP.s s hs).1]; omega
theorem rev_getD {S : List (List Nat)} {i : Nat} (h : i < S.length) : S.reverse.getD i [] = S.getD (S.length - 1 - i) [] := by
  rw [getD_at (by rw [List.length_reverse]; exact h), List.getElem_reverse, getD_at (by omega)]
theorem cp_rises {k L : Nat} {S : List (List Nat)} {down : Bool} {c : List Nat} (hc : Cp k L (dirS S down) c) : ∃ m, Rises (nB k L) down m ∧ (∀ b, b < nB k L → m b < S.length) ∧ c = (rdB k L S m).flatten := by
  obtain ⟨f, hf, e⟩ := cp_F.mp hc
  rw [dir_len] at hf
  cases down with
  | false => exact ⟨f, fun a b hab hb => by simpa using mono_lt hf (Nat.le_of_lt hab) hb, fun b hb => (hf.1 b hb).2, e⟩
  | true =>
    refine ⟨fun b => S.length - 1 - f b, fun a b hab hb => ?_, fun b hb => ?_, ?_⟩
    · have := mono_lt hf (Nat.le_of_lt hab) hb
      rw [if_pos rfl]; show S.length - 1 - f b ≤ S.length - 1 - f a; omega
    · have := (hf.1 b hb).2
      show S.length - 1 - f b < _; omega
    · rw [e]
      congr 1
      unfold rdF rdB
      refine List.map_congr_left fun b hb => ?_
      have := (hf.1 b (List.mem_range.mp hb)).2
      show bAt k (S.reverse.getD (f b) []) b = bAt k (S.getD (S.length - 1 - f b) []) b
      rw [rev_getD this]
theorem early_valid {n : Nat} {hit : Nat → Nat → Bool} : ∀ {bs : List Nat} {last : Nat} {ms ms' : List Nat}, bs.Nodup → (∀ b ∈ bs, b < ms.length) → earlyF n hit bs last ms = (some ms', none) →
    (∀ b ∈ bs, last ≤ ms'.getD b 0 ∧ ms'.getD b 0 < n ∧ hit b (ms'.getD b 0) = true) ∧ bs.Pairwise (fun a b => ms'.getD a 0 ≤ ms'.getD b 0) ∧ (∀ b, b ∉ bs → ms'.getD b 0 = ms.getD b 0)
  | [], last, ms, ms', _, _, h => by
    have h : (some ms, (none : Option (Nat × Nat))) = (some ms', none) := h
    injection h with h _
    injection h with h
    subst h
    exact ⟨fun b hb => by simp at hb, List.Pairwise.nil, fun _ _ => rfl⟩
  | b :: bs, last, ms, ms', nd, hb, h => by
    rw [earlyF] at h
    cases e : fits n last (hit b) with
    | nil => rw [e] at h; injection h with h _; cases h
    | cons t r =>
      rw [e] at h
      have h : earlyF n hit bs t (ms.set b t) = (some ms', none) := h
      obtain ⟨t1, t2, t3, _⟩ := fits_head e
      have nd' := List.nodup_cons.mp nd
      have hb0 := hb b List.mem_cons_self
      obtain ⟨g1, g2, g3⟩ := early_valid nd'.2 (fun c hc => by rw [List.length_set]; exact hb c (List.mem_cons_of_mem _ hc)) h
      have hv : ms'.getD b 0 = t := by
        rw [g3 b nd'.1, getD_at (by rw [List.length_set]; exact hb0), List.getElem_set_self]
      refine ⟨fun c hc => ?_, List.pairwise_cons.mpr ⟨fun c hc => by rw [hv]; exact (g1 c hc).1, g2⟩, fun c hc => ?_⟩
      · rcases List.mem_cons.mp hc with rfl | hc
        · rw [hv]; exact ⟨t1, t2, t3⟩
        · have := g1 c hc
          exact ⟨by omega, this.2⟩
      · have c1 : c ≠ b := fun e => hc (by rw [e]; exact List.mem_cons_self)
        rw [g3 c fun h => hc (List.mem_cons_of_mem _ h)]
        simp only [List.getD]
        rw [List.getElem?_set_ne (Ne.symm c1)]
theorem along_val {L : Nat} {S : List (List Nat)} (hS : StsOk L S) {n : Int} (hn : SzOk n) {down : Bool} : m_columns_along (S.map mk) n down = .ok ((colB n.toNat L (dirS S down)).map fun c => c.map mk) := by
  unfold m_columns_along
  have : cond down (Res.ok (S.map mk).reverse) (Res.ok (S.map mk)) = .ok ((dirS S down).map mk) := by
    unfold dirS
    cases down with
    | true => rw [cond_true, if_pos rfl, List.map_reverse]
    | false => rw [cond_false, if_neg (by decide)]
  rw [this, bind_ok, columns_val (dir_ok hS) hn, bind_ok, colsL_B]
/-- the contents of a history, by their numbers -/
def colH (l : List Nat) (ws : List Wr) (n : Int) (down : Bool) : List (List Blk) := colB n.toNat l.length (dirS (sts l ws) down)
theorem count_val {l : List Nat} {ws : List Wr} (h : HistOk l ws) {n : Int} (hn : SzOk n) {down : Bool} : m_copy_count (hisV l ws) n down = .ok (cnt (colH l ws n down) 0 : Int) := by
  have hk : 1 ≤ n.toNat := by have := hn.1; omega
  have hS := sts_ok h
  have hnb := nB_le (L := l.length) hk
  have hL := h.n
  have hm := h.m
  have hsl : (sts l ws).length = ws.length + 1 := sts_len
  have hdl : (dirS (sts l ws) down).length = ws.length + 1 := dir_len.trans hsl
  unfold m_copy_count
  rw [asked_val hn, bind_ok, states_val h, bind_ok, along_val hS hn, bind_ok, his_len_val (by omega), bind_ok, show ((ws.length : Int) + (1 : Int)) = ((ws.length + 1 : Nat) : Int) by omega,
    counts_val (by omega) (by rw [colB_len]; omega) (fun c hc => (colB_all c hc).trans hdl), bind_ok, show (0 : Int) = ((0 : Nat) : Int) from rfl, pix_nat (cntL_at (Nat.zero_le _)), bind_ok, pix_nat (x := (cnt (colH l ws n down) 0 : Int)) (by unfold rows; rw [List.getElem?_map, List.getElem?_range (by omega)]; rfl), bind_ok]
theorem at_val {l : List Nat} {ws : List Wr} (h : HistOk l ws) {n : Int} (hn : SzOk n) {down : Bool} {x : Nat} (hx : x < cnt (colH l ws n down) 0) : m_copy_at (hisV l ws) n (x : Int) down = .ok (mk (unr (colH l ws n down) 0 x).flatten) := by
  have hk : 1 ≤ n.toNat := by have := hn.1; omega
  have hS := sts_ok h
  have hnb := nB_le (L := l.length) hk
  have hL := h.n
  have hm := h.m
  have hsl : (sts l ws).length = ws.length + 1 := sts_len
  have hdl : (dirS (sts l ws) down).length = ws.length + 1 := dir_len.trans hsl
  have e2 : pix (cntL (ws.length + 1) (colB n.toNat l.length (dirS (sts l ws) down))) (0 : Int) = .ok (rows (ws.length + 1) (colB n.toNat l.length (dirS (sts l ws) down))) := pix_nat (i := 0) (cntL_at (Nat.zero_le _))
  have e3 : pix (rows (ws.length + 1) (colB n.toNat l.length (dirS (sts l ws) down))) (0 : Int) = .ok (cnt (colH l ws n down) 0 : Int) := pix_nat (i := 0) (by unfold rows; rw [List.getElem?_map, List.getElem?_range (by omega)]; rfl)
  unfold m_copy_at
  rw [asked_val hn, bind_ok, states_val h, bind_ok, along_val hS hn, bind_ok, his_len_val (by omega), bind_ok, show ((ws.length : Int) + (1 : Int)) = ((ws.length + 1 : Nat) : Int) by omega,
    counts_val (by omega) (by rw [colB_len]; omega) (fun c hc => (colB_all c hc).trans hdl), bind_ok, e2, bind_ok, e3, bind_ok,
    within_val (by omega) (by omega), bind_ok, content_val (P := ws.length + 1) (m := l.length) (by omega) (by rw [colB_len]; omega) (fun c hc => (colB_all c hc).trans hdl) hx (by omega) (fit_B (dir_ok hS)), bind_ok]
  rfl
theorem cp_at {l : List Nat} {ws : List Wr} {n : Int} {down : Bool} {x : Nat} (hx : x < cnt (colH l ws n down) 0) : Cp n.toNat l.length (dirS (sts l ws) down) (unr (colH l ws n down) 0 x).flatten := cp_unr.mpr ⟨x, hx, rfl⟩
theorem pick_mem {w : Nat → Nat} : ∀ {R : List (Blk × Nat)} {n : Nat} {x : Blk} {f m : Nat}, pick w R n = some (x, f, m) → (x, f) ∈ R
  | [], n, x, f, m, h => by simp [pick] at h
  | p :: R, n, x, f, m, h => by
    unfold pick at h
    split at h
    · cases h; exact List.mem_cons_self
    · exact List.mem_cons_of_mem _ (pick_mem h)
/-- how many contents begin with less -/
def below (R : List (Blk × Nat)) (w : Nat → Nat) (x : Blk) : Nat := ((R.filter fun p => decide (p.1 < x)).map fun p => w p.2).sum
theorem below_cons {R : List (Blk × Nat)} {w : Nat → Nat} {x : Blk} {p : Blk × Nat} : below (p :: R) w x = (if p.1 < x then w p.2 else 0) + below R w x := by
  unfold below
  by_cases h : p.1 < x
  · rw [List.filter_cons_of_pos (by exact decide_eq_true h), if_pos h]; rfl
  · rw [List.filter_cons_of_neg (by rw [decide_eq_false h]; decide), if_neg h, Nat.zero_add]
theorem below_none {w : Nat → Nat} {x : Blk} : ∀ {R : List (Blk × Nat)}, (∀ p ∈ R, ¬ p.1 < x) → below R w x = 0
  | [], _ => rfl
  | p :: R, h => by rw [below_cons, if_neg (h p List.mem_cons_self), below_none fun q hq => h q (List.mem_cons_of_mem _ hq)]
theorem below_mono {w : Nat → Nat} {x y : Blk} (h : y < x) : ∀ {R : List (Blk × Nat)}, below R w y ≤ below R w x
  | [] => Nat.le_refl _
  | p :: R => by
    have ih := below_mono (w := w) h (R := R)
    rw [below_cons, below_cons]
    by_cases g : p.1 < y
    · rw [if_pos g, if_pos (List.lt_trans g h)]; omega
    · rw [if_neg g]; omega
theorem below_step {w : Nat → Nat} {x y : Blk} {g : Nat} (h : y < x) : ∀ {R : List (Blk × Nat)}, (y, g) ∈ R → below R w y + w g ≤ below R w x
  | [], hm => by simp at hm
  | p :: R, hm => by
    rw [below_cons, below_cons]
    rcases List.mem_cons.mp hm with e | hm
    · have := below_mono (w := w) h (R := R)
      subst e
      rw [if_neg (List.lt_irrefl _), if_pos h]
      show 0 + below R w y + w g ≤ w g + below R w x
      omega
    · have := below_step (w := w) h hm
      by_cases q : p.1 < y
      · rw [if_pos q, if_pos (List.lt_trans q h)]; omega
      · rw [if_neg q]; omega
theorem pick_num {w : Nat → Nat} : ∀ {R : List (Blk × Nat)} {n : Nat} {x : Blk} {f m : Nat}, R.Pairwise (fun p q => p.1 < q.1) → pick w R n = some (x, f, m) → n = below R w x + m ∧ m < w f
  | [], n, x, f, m, _, h => by simp [pick] at h
  | p :: R, n, x, f, m, hs, h => by
    obtain ⟨h1, h2⟩ := List.pairwise_cons.mp hs
    unfold pick at h
    split at h
    · rename_i hn
      cases h
      refine ⟨?_, hn⟩
      rw [below_cons, if_neg (List.lt_irrefl _), below_none fun q hq => List.lt_asymm (h1 q hq)]; omega
    · rename_i hn
      obtain ⟨g1, g2⟩ := pick_num h2 h
      have := h1 _ (pick_mem h)
      exact ⟨by rw [below_cons, if_pos this]; omega, g2⟩
def numF : List (List Blk) → Nat → List Blk → Option Nat
  | [], _, _ => some 0
  | c :: cs, t, w => match nxt c t (w.headD []) with
    | none => none
    | some f => (numF cs f w.tail).map (below (rdg c t) (cnt cs) (w.headD []) + ·)
theorem numF_unr : ∀ {cs : List (List Blk)} {t n : Nat}, n < cnt cs t → numF cs t (unr cs t n) = some n
  | [], t, n, h => by
    have h : n < 1 := h
    show some 0 = some n
    congr 1; omega
  | c :: cs, t, n, h => by
    obtain ⟨x, f, m, e, h1, h2⟩ := pick_some (w := cnt cs) h
    obtain ⟨g1, _⟩ := pick_num rdg_sorted e
    rw [unr, e]
    show numF (c :: cs) t (x :: unr cs f m) = _
    unfold numF
    show (match nxt c t x with | none => none | some f => (numF cs f (unr cs _ m)).map (below (rdg c t) (cnt cs) x + ·)) = _
    rw [mem_rdg.mp h1]
    show (numF cs f (unr cs f m)).map _ = _
    rw [numF_unr h2]
    show some _ = _
    congr 1; exact g1.symm
theorem numF_Rd : ∀ {cs : List (List Blk)} {t n : Nat} {w : List Blk}, w.length = cs.length → numF cs t w = some n → Rd cs t w
  | [], t, n, w, hl, _ => List.eq_nil_of_length_eq_zero hl
  | c :: cs, t, n, [], hl, h => by simp at hl
  | c :: cs, t, n, x :: w, hl, h => by
    unfold numF at h
    have h : (match nxt c t x with | none => none | some f => (numF cs f w).map (below (rdg c t) (cnt cs) x + ·)) = some n := h
    cases e : nxt c t x with
    | none => rw [e] at h; cases h
    | some f =>
      rw [e] at h
      have h : (numF cs f w).map (below (rdg c t) (cnt cs) x + ·) = some n := h
      cases e2 : numF cs f w with
      | none => rw [e2] at h; cases h
      | some m => exact ⟨x, f, w, rfl, e, numF_Rd (by simpa using hl) e2⟩
theorem numF_some {cs : List (List Blk)} {t n : Nat} {w : List Blk} (hl : w.length = cs.length) (h : numF cs t w = some n) : n < cnt cs t ∧ unr cs t n = w := by
  obtain ⟨i, i1, i2⟩ := Rd_unr (numF_Rd hl h)
  have := numF_unr i1
  rw [i2, h] at this
  have := Option.some.inj this
  subst this
  exact ⟨i1, i2⟩
theorem fm_one {x : Blk} : ∀ {R : List (Blk × Nat)}, (R.map (·.1)).Nodup → (∀ f, (x, f) ∈ R → R.filterMap (fun p => if p.1 = x then some (p.2 : Int) else none) = [(f : Int)]) ∧ ((∀ f, (x, f) ∉ R) → R.filterMap (fun p => if p.1 = x then some (p.2 : Int) else none) = [])
  | [], _ => ⟨fun f h => by simp at h, fun _ => rfl⟩
  | p :: R, nd => by
    rw [List.map_cons] at nd
    obtain ⟨n1, n2⟩ := List.nodup_cons.mp nd
    obtain ⟨i1, i2⟩ := fm_one (x := x) n2
    by_cases e : p.1 = x
    · have hno : ∀ f, (x, f) ∉ R := fun f hf => n1 (by rw [e]; exact List.mem_map.mpr ⟨(x, f), hf, rfl⟩)
      refine ⟨fun f hf => ?_, fun h => absurd (show (x, p.2) ∈ p :: R by rw [← e]; exact List.mem_cons_self) (h p.2)⟩
      rw [List.filterMap_cons, if_pos e, i2 hno]
      rcases List.mem_cons.mp hf with g | g
      · rw [← g]
      · exact absurd g (hno f)
    · refine ⟨fun f hf => ?_, fun h => ?_⟩
      · rw [List.filterMap_cons, if_neg e]
        rcases List.mem_cons.mp hf with g | g
        · rw [← g] at e; exact absurd rfl e
        · exact i1 f g
      · rw [List.filterMap_cons, if_neg e]
        exact i2 fun f hf => h f (List.mem_cons_of_mem _ hf)
theorem sum_fm {α : Type} {p : α → Bool} {g : α → Nat} : ∀ {xs : List α}, (xs.filterMap fun x => if p x then some (g x : Int) else none).sum = (((xs.filter p).map g).sum : Nat)
  | [] => rfl
  | x :: xs => by
    rw [List.filterMap_cons]
    cases h : p x with
    | true => rw [if_pos rfl, List.filter_cons_of_pos h, List.map_cons, List.sum_cons, List.sum_cons, sum_fm, Int.natCast_add]
    | false => rw [if_neg (by decide), List.filter_cons_of_neg (by rw [h]; decide), sum_fm]
theorem number_loop {P : Nat} (hP : P ≤ 100000) {cols : List (List Blk)} (hl : cols.length ≤ 100000) (hc : ∀ c ∈ cols, c.length = P) {wanted : List Blk} (hwl : wanted.length = cols.length) {K : Int × Int → Res (Option Int)} {J : Option Int → Res (Option Int)} (hK : ∀ s, K s = .ok (some s.1)) (hJ : ∀ r, J r = .ok r) :
    ∀ {cs : List (List Blk)} {b t acc : Nat} {w : List Blk}, cols.drop b = cs → wanted.drop b = w → t ≤ P →
      (forR (ρ := (Option Int)) (fun (s1 : (Int × Int)) (x2 : Int × List Str) => (m_readings x2.2 s1.2).bind fun z5 => (compR (β := Int) (fun x6 => (pix (wanted.map mk) x2.1).bind fun z7 => cond (decide (x6.1 = z7)) (Res.ok (some x6.2)) (Res.ok none)) z5).bind fun l8 => cond (l8.isEmpty) (Res.ok (Ctl.rt none)) ((m_readings x2.2 s1.2).bind fun z10 => (compR (β := Int) (fun x11 => (pix (wanted.map mk) x2.1).bind fun z12 => cond (decide (x11.1.cps.toList < z12.cps.toList)) ((pix (cntL P cols) (x2.1 + (1 : Int))).bind fun z13 => (pix z13 x11.2).bind fun z14 => Res.ok (some z14)) (Res.ok none)) z10).bind fun l15 => (pix l8 (0 : Int)).bind fun z16 => Res.ok (Ctl.nx ((s1.1 + (l15.sum)), z16)))) (enumF b (cs.map fun c => c.map mk)) ((acc : Int), (t : Int))).bind (Ctl.fin K J) = .ok ((numF cs t w).map fun n => ((acc + n : Nat) : Int))
  | [], b, t, acc, w, hd, hw, ht => by
    show Ctl.fin K J (.nx _) = _
    rw [fin_nx, hK]; rfl
  | c :: cs, b, t, acc, w, hd, hw, ht => by
    have hbl : b < cols.length := by
      have := congrArg List.length hd
      rw [List.length_drop, List.length_cons] at this; omega
    have hcm : c ∈ cols := List.mem_of_mem_drop (i := b) (by rw [hd]; exact List.mem_cons_self)
    have hd' : cols.drop (b + 1) = cs := by rw [← List.drop_drop, hd]; rfl
    have hcl := hc c hcm
    have hw' : wanted.drop b = wanted.getD b [] :: wanted.drop (b + 1) := by rw [List.drop_eq_getElem_cons (by omega), getD_at (by omega)]
    generalize hx : wanted.getD b [] = x at hw'
    rw [hw'] at hw
    subst hw
    have hpw : pix (wanted.map mk) (b : Int) = .ok (mk x) := by rw [map_at (d := []) (by omega), hx]
    have hrl : ((rdg c t).map pV).length ≤ 100000 := by rw [List.length_map]; have := rdg_len (c := c) (t := t); omega
    rw [List.map_cons, enumF, forR_cons]
    show (((m_readings (c.map mk) (t : Int)).bind _).bind _).bind _ = _
    rw [readings_val (by omega) (by omega), bind_ok, compR_fm (fun y => if decide (y.1 = mk x) then some y.2 else none) (by rw [sz]; omega) fun y _ => by
      show ((pix (wanted.map mk) (b : Int)).bind _) = _
      rw [hpw, bind_ok]; cases decide (y.1 = mk x) <;> rfl, bind_ok]
    have e1 : ((rdg c t).map pV).filterMap (fun y => if decide (y.1 = mk x) then some y.2 else none) = (rdg c t).filterMap (fun p => if p.1 = x then some (p.2 : Int) else none) := by
      rw [List.filterMap_map]
      congr 1
      funext p
      show (if decide (mk p.1 = mk x) = true then some (p.2 : Int) else none) = _
      rw [mk_dec]
      by_cases g : p.1 = x
      · rw [decide_eq_true g, if_pos rfl, if_pos g]
      · rw [decide_eq_false g, if_neg (by decide), if_neg g]
    obtain ⟨o1, o2⟩ := fm_one (x := x) (R := rdg c t) rdg_nodup
    rw [e1]
    have eN : numF (c :: cs) t (x :: wanted.drop (b + 1)) = match nxt c t x with
        | none => none
        | some f => (numF cs f (wanted.drop (b + 1))).map (below (rdg c t) (cnt cs) x + ·) := rfl
    rw [eN]
    cases e : nxt c t x with
    | none =>
      rw [o2 fun f hf => by rw [mem_rdg.mp hf] at e; cases e]
      show (Ctl.fin K J (.rt none)) = _
      rw [fin_rt, hJ]; rfl
    | some f =>
      have hg := nxt_some.mp e
      rw [o1 f (mem_rdg.mpr e)]
      show (((((compR (β := Int) _ ((rdg c t).map pV)).bind _) : Res (Ctl (Int × Int) (Option Int))).bind _).bind _) = _
      have e2 : pix (cntL P cols) ((b : Int) + (1 : Int)) = .ok (rows P cs) := by
        rw [show (b : Int) + 1 = ((b + 1 : Nat) : Int) by omega, pix_nat (cntL_at (by omega)), hd']
      rw [compR_fm (fun y => if decide (y.1.cps.toList < (mk x).cps.toList) then some (cnt cs y.2.toNat : Int) else none) (by rw [sz]; omega) fun y hy => by
        obtain ⟨q, hq, rfl⟩ := List.mem_map.mp hy
        obtain ⟨y, g⟩ := q
        have hg := nxt_some.mp (mem_rdg.mp hq)
        show ((pix (wanted.map mk) (b : Int)).bind _) = _
        rw [hpw, bind_ok]
        cases decide ((pV (y, g)).1.cps.toList < (mk x).cps.toList) with
        | false => rfl
        | true =>
          show (((pix (cntL P cols) ((b : Int) + (1 : Int))).bind _) : Res (Option Int)) = _
          rw [e2, bind_ok]
          show (((pix (rows P cs) (g : Int)).bind _) : Res (Option Int)) = _
          rw [pix_nat (x := (cnt cs g : Int)) (by unfold rows; rw [List.getElem?_map, List.getElem?_range (by omega)]; rfl), bind_ok]; rfl, bind_ok]
      have e3 : (((rdg c t).map pV).filterMap (fun y => if decide (y.1.cps.toList < (mk x).cps.toList) then some (cnt cs y.2.toNat : Int) else none)).sum = (below (rdg c t) (cnt cs) x : Nat) := by
        rw [List.filterMap_map]
        have : ((fun y : Str × Int => if decide (y.1.cps.toList < (mk x).cps.toList) then some (cnt cs y.2.toNat : Int) else none) ∘ pV) = fun p : Blk × Nat => if decide (p.1 < x) then some (cnt cs p.2 : Int) else none := rfl
        rw [this, sum_fm]; rfl
      rw [e3, show pix [(f : Int)] (0 : Int) = .ok (f : Int) from pix_nat (i := 0) rfl, bind_ok, bind_ok, go_nx]
      show (forR _ _ ((acc : Int) + (below (rdg c t) (cnt cs) x : Int), (f : Int))).bind _ = _
      rw [show (acc : Int) + (below (rdg c t) (cnt cs) x : Int) = ((acc + below (rdg c t) (cnt cs) x : Nat) : Int) by omega]
      have ih := number_loop hP hl hc hwl hK hJ (cs := cs) (b := b + 1) (t := f) (acc := acc + below (rdg c t) (cnt cs) x) (w := wanted.drop (b + 1)) hd' rfl (by omega)
      refine ih.trans ?_
      show Res.ok _ = Res.ok (((numF cs f (wanted.drop (b + 1))).map _).map _)
      cases numF cs f (wanted.drop (b + 1)) with
      | none => rfl
      | some n =>
        show Res.ok (some (((acc + below (rdg c t) (cnt cs) x + n : Nat)) : Int)) = Res.ok (some ((acc + (below (rdg c t) (cnt cs) x + n) : Nat) : Int))
        rw [Nat.add_assoc]
theorem number_val {P : Nat} (hP : P ≤ 100000) {cols : List (List Blk)} (hl : cols.length ≤ 100000) (hc : ∀ c ∈ cols, c.length = P) {w : List Blk} (hwl : w.length = cols.length) : m_number_of (cols.map fun c => c.map mk) (cntL P cols) (w.map mk) = .ok ((numF cols 0 w).map Int.ofNat) := by
  unfold m_number_of
  rw [enumL_F]
  have := number_loop (K := fun s1 => Res.ok (some s1.1)) (J := fun r => Res.ok r) hP hl hc hwl (fun _ => rfl) (fun _ => rfl) (cs := cols) (b := 0) (t := 0) (acc := 0) (w := w) rfl rfl (Nat.zero_le _)
  refine this.trans ?_
  congr 1
  cases numF cols 0 w with
  | none => rfl
  | some n => show some ((0 + n : Nat) : Int) = some (n : Int); rw [Nat.zero_add]
theorem copy_number_val {l : List Nat} {ws : List Wr} (h : HistOk l ws) {n : Int} (hn : SzOk n) {c : List Nat} (hc : TxtS c) (hl : c.length = l.length) {down : Bool} : m_copy_number (hisV l ws) n (mk c) down = .ok ((numF (colH l ws n down) 0 (blk n.toNat c)).map Int.ofNat) := by
  have hk : 1 ≤ n.toNat := by have := hn.1; omega
  have hS := sts_ok h
  have hnb := nB_le (L := l.length) hk
  have hL := h.n
  have hm := h.m
  have hsl : (sts l ws).length = ws.length + 1 := sts_len
  have hdl : (dirS (sts l ws) down).length = ws.length + 1 := dir_len.trans hsl
  unfold m_copy_number
  rw [asked_val hn, bind_ok, check_content_val h hc hl, bind_ok, states_val h, bind_ok, along_val hS hn, bind_ok, his_len_val (by omega), bind_ok, show ((ws.length : Int) + (1 : Int)) = ((ws.length + 1 : Nat) : Int) by omega,
    counts_val (by omega) (by rw [colB_len]; omega) (fun c hc => (colB_all c hc).trans hdl), bind_ok, blocks_val hn (by rw [mk_len]; omega), bind_ok, signs_mk,
    number_val (by omega) (by rw [colB_len]; omega) (fun c hc => (colB_all c hc).trans hdl) (by rw [colB_len, blk_nB hl]), bind_ok]
  rfl
/-- numbers and copies -/
theorem num_some {l : List Nat} {ws : List Wr} (h : HistOk l ws) {n : Int} (hn : SzOk n) {c : List Nat} (hl : c.length = l.length) {down : Bool} {i : Nat} (e : numF (colH l ws n down) 0 (blk n.toNat c) = some i) : i < cnt (colH l ws n down) 0 ∧ (unr (colH l ws n down) 0 i).flatten = c := by
  have hk : 1 ≤ n.toNat := by have := hn.1; omega
  obtain ⟨h1, h2⟩ := numF_some (by unfold colH; rw [colB_len, blk_nB hl]) e
  exact ⟨h1, by rw [h2, blk_flat hk]⟩
theorem num_unr {l : List Nat} {ws : List Wr} (h : HistOk l ws) {n : Int} (hn : SzOk n) {down : Bool} {i : Nat} (hi : i < cnt (colH l ws n down) 0) : numF (colH l ws n down) 0 (blk n.toNat (unr (colH l ws n down) 0 i).flatten) = some i := by
  have hk : 1 ≤ n.toNat := by have := hn.1; omega
  have := (Rds_re hk (dir_ok (sts_ok h)) (unr_rds hi)).2
  unfold colH at *
  rw [this]; exact numF_unr hi
/-- the law's earliest reading and copies -/
theorem cp_of_rises {k L : Nat} {S : List (List Nat)} {down : Bool} {m : Nat → Nat} (h1 : Rises (nB k L) down m) (h2 : ∀ b, b < nB k L → m b < S.length) : Cp k L (dirS S down) (rdB k L S m).flatten := by
  cases down with
  | false =>
    refine cp_F.mpr ⟨m, ⟨fun b hb => ⟨Nat.zero_le _, h2 b hb⟩, fun b hb => ?_⟩, rfl⟩
    have := h1 b (b + 1) (by omega) hb
    simpa using this
  | true =>
    refine cp_F.mpr ⟨fun b => S.length - 1 - m b, ⟨fun b hb => ⟨Nat.zero_le _, ?_⟩, fun b hb => ?_⟩, ?_⟩
    · have := h2 b hb
      rw [dir_len]; show S.length - 1 - m b < _; omega
    · have := h1 b (b + 1) (by omega) hb
      rw [if_pos rfl] at this
      show S.length - 1 - m b ≤ S.length - 1 - m (b + 1); omega
    · congr 1
      unfold rdF rdB
      refine List.map_congr_left fun b hb => ?_
      have := h2 b (List.mem_range.mp hb)
      show bAt k (S.getD (m b) []) b = bAt k (S.reverse.getD (S.length - 1 - m b) []) b
      rw [rev_getD (by omega), show S.length - 1 - (S.length - 1 - m b) = m b by omega]
theorem early_cp {k L : Nat} (hk : 1 ≤ k) {S : List (List Nat)} {down : Bool} {c : List Nat} (hc : c.length = L) {ms : List Nat} (h : earlyS k L S c down = (some ms, none)) : Cp k L (dirS S down) c := by
  obtain ⟨v1, v2, _⟩ := early_valid (ordL_nodup (nb := nB k L) (down := down)) (fun b hb => by rw [List.length_replicate]; exact ordL_mem.mp hb) h
  have e : c = (rdB k L S fun b => ms.getD b 0).flatten := by
    conv => lhs; rw [← blk_flat hk c]
    congr 1
    refine List.ext_getElem (by unfold rdB; rw [List.length_map, List.length_range, blk_nB hc]) fun i i1 i2 => ?_
    have hi : i < nB k L := by rwa [blk_nB hc] at i1
    have := of_decide_eq_true (v1 i (ordL_mem.mpr hi)).2.2
    simp only [rdB, List.getElem_map, List.getElem_range]
    rw [this]
    unfold bAt
    rw [getD_at i1]
  rw [e]
  refine cp_of_rises (fun a b hab hb => ?_) fun b hb => (v1 b (ordL_mem.mpr hb)).2.1
  have key : ∀ {l : List Nat} {i j : Nat} (hi : i < l.length) (hj : j < l.length), l.Pairwise (fun a b => ms.getD a 0 ≤ ms.getD b 0) → i < j → ms.getD l[i] 0 ≤ ms.getD l[j] 0 := fun hi hj hp hij => List.pairwise_iff_getElem.mp hp _ _ hi hj hij
  unfold ordL at v2
  cases down with
  | false =>
    rw [if_neg (by decide)] at v2 ⊢
    have := key (i := a) (j := b) (by rw [List.length_range]; omega) (by rw [List.length_range]; omega) v2 hab
    rwa [List.getElem_range, List.getElem_range] at this
  | true =>
    rw [if_pos rfl] at v2 ⊢
    rw [List.pairwise_reverse] at v2
    have := List.pairwise_iff_getElem.mp v2 a b (by rw [List.length_range]; omega) (by rw [List.length_range]; omega) hab
    rwa [List.getElem_range, List.getElem_range] at this
theorem cp_early {k L : Nat} (hk : 1 ≤ k) {S : List (List Nat)} (hS : StsOk L S) {down : Bool} {c : List Nat} (hc : Cp k L (dirS S down) c) : ∃ ms, earlyS k L S c down = (some ms, none) := by
  obtain ⟨m, m1, m2, m3⟩ := cp_rises hc
  obtain ⟨ms, e1, _, _⟩ := early_of_read hk hS m1 m2
  rw [← m3] at e1
  exact ⟨ms, e1⟩
theorem early_iff {k L : Nat} (hk : 1 ≤ k) {S : List (List Nat)} (hS : StsOk L S) {down : Bool} {c : List Nat} (hc : c.length = L) : (earlyS k L S c down).1.isNone = false ↔ Cp k L (dirS S down) c := by
  constructor
  · intro h
    rcases early_end (n := S.length) (hit := hitB k S c) (bs := ordL (nB k L) down) (last := 0) (ms := List.replicate (nB k L) 0) with ⟨ms, e, _⟩ | ⟨p, e⟩
    · exact early_cp hk hc e
    · have : earlyS k L S c down = (none, some p) := e
      rw [this] at h; cases h
  · intro h
    obtain ⟨ms, e⟩ := cp_early hk hS h
    rw [e]; rfl
/-- contents rise with their numbers -/
theorem lex_same {u v : List Nat} (h : u < v) : ∀ {a : List Nat}, a ++ u < a ++ v
  | [] => h
  | x :: a => List.cons_lt_cons_iff.mpr (.inr ⟨rfl, lex_same h⟩)
theorem lex_app {u v : List Nat} : ∀ {a b : List Nat}, a.length = b.length → a < b → a ++ u < b ++ v
  | [], [], _, h => absurd h (List.lt_irrefl _)
  | [], y :: b, hl, _ => by simp at hl
  | x :: a, [], hl, _ => by simp at hl
  | x :: a, y :: b, hl, h => by
    rw [List.cons_append, List.cons_append]
    rcases List.cons_lt_cons_iff.mp h with g | ⟨g1, g2⟩
    · exact List.cons_lt_cons_iff.mpr (.inl g)
    · exact List.cons_lt_cons_iff.mpr (.inr ⟨g1, lex_app (by simpa using hl) g2⟩)
theorem unr_lt : ∀ {cs : List (List Blk)}, (∀ c ∈ cs, ∃ m, ∀ x ∈ c, x.length = m) → ∀ {t n m : Nat}, n < m → m < cnt cs t → (unr cs t n).flatten < (unr cs t m).flatten
  | [], _, t, n, m, h, hm => by
    have hm : m < 1 := hm
    omega
  | c :: cs, hl, t, n, m, h, hm => by
    have hn : n < cnt (c :: cs) t := by omega
    obtain ⟨x, f, a, e1, h1, h2⟩ := pick_some (w := cnt cs) hn
    obtain ⟨y, g, b, e2, g1, g2⟩ := pick_some (w := cnt cs) hm
    obtain ⟨p1, p2⟩ := pick_num rdg_sorted e1
    obtain ⟨q1, q2⟩ := pick_num rdg_sorted e2
    have mx := nxt_some.mp (mem_rdg.mp h1)
    have my := nxt_some.mp (mem_rdg.mp g1)
    rw [unr, unr, e1, e2]
    show (x :: unr cs f a).flatten < (y :: unr cs g b).flatten
    rw [List.flatten_cons, List.flatten_cons]
    rcases Std.lt_trichotomy x y with q | q | q
    · obtain ⟨z, hz⟩ := hl c List.mem_cons_self
      refine lex_app ?_ q
      rw [← mx.2.2.1, ← my.2.2.1, hz _ (by rw [getD_at mx.2.1]; exact List.getElem_mem _), hz _ (by rw [getD_at my.2.1]; exact List.getElem_mem _)]
    · subst q
      have := (mem_rdg.mp h1).symm.trans (mem_rdg.mp g1)
      have := Option.some.inj this
      subst this
      exact lex_same (unr_lt (fun c hc => hl c (List.mem_cons_of_mem _ hc)) (by omega) g2)
    · have := below_step (w := cnt cs) q g1
      omega
theorem eqOL {hn : ∀ a, PyData.eqv ((pyL pyI).py a) .none = false ∧ PyData.eqv .none ((pyL pyI).py a) = false} {a b : Option (List Int)} : peq (pyO (pyL pyI) hn).ok a b = .ok (decide (a = b)) := by
  refine peq_ok ?_ ?_
  · cases a with
    | none => rfl
    | some a => exact okI_L
  · cases b with
    | none => rfl
    | some a => exact okI_L
theorem pin_ok {α : Type} [DecidableEq α] {ok : α → Bool} {a : α} {xs : List α} (h1 : ok a = true) (h2 : xs.all ok = true) : pinL ok a xs = .ok (decide (a ∈ xs)) := guard_ok ⟨h1, h2⟩
theorem pin_true {α : Type} [DecidableEq α] {ok : α → Bool} {a : α} {xs : List α} (h1 : ok a = true) (h2 : xs.all ok = true) (hm : a ∈ xs) : pinL ok a xs = .ok true := (pin_ok h1 h2).trans (congrArg Res.ok (decide_eq_true hm))
theorem eqOI {hn : ∀ a, PyData.eqv (pyI.py a) .none = false ∧ PyData.eqv .none (pyI.py a) = false} {a b : Option Int} : peq (pyO pyI hn).ok a b = .ok (decide (a = b)) := by
  refine peq_ok ?_ ?_
  · cases a <;> rfl
  · cases b <;> rfl
theorem evI_none {x : Option (List Nat) × Option (Nat × Nat)} : (evI x).1.isNone = x.1.isNone := by
  obtain ⟨_ | a, b⟩ := x <;> rfl
theorem moments_v {l : List Nat} {ws : List Wr} (h : HistOk l ws) {n : Int} (hn : SzOk n) {c : List Nat} (hc : c.length = l.length) (ht : TxtS c) {down : Bool} : m_copy_moments (hisV l ws) n (mk c) down = .ok (evI (earlyS n.toNat l.length (sts l ws) c down)).1 := by
  unfold m_copy_moments
  rw [asked_val hn, bind_ok, check_content_val h ht hc, bind_ok, earliest_val h hn hc]; rfl
theorem cp_txt {k L : Nat} (hk : 1 ≤ k) {S : List (List Nat)} (hS : StsOk L S) {down : Bool} {c : List Nat} (h : Cp k L (dirS S down) c) : c.length = L ∧ TxtS c := by
  obtain ⟨w, w1, rfl⟩ := h
  exact ⟨(Rds_re hk (dir_ok hS) w1).1, Rds_txt (dir_ok hS) w1⟩
def lastN (w : List Nat) : Nat := (0 :: w).getLast (List.cons_ne_nil _ _)
theorem lastN_snoc {w : List Nat} {x : Nat} : lastN (w ++ [x]) = x := by
  show ((0 :: w) ++ [x]).getLast _ = x
  first | exact List.getLast_concat | exact List.getLast_append_singleton _
def wk (n : Nat) : Nat → List (List Nat)
  | 0 => [[]]
  | m + 1 => (wk n m).flatMap fun w => (List.range (n - lastN w)).map fun i => w ++ [lastN w + i]
theorem flat_le {α β : Type} {g : α → List β} {b : Nat} : ∀ {l : List α}, (∀ x ∈ l, (g x).length ≤ b) → (l.flatMap g).length ≤ l.length * b
  | [], _ => Nat.zero_le _
  | x :: l, h => by
    rw [List.flatMap_cons, List.length_append, List.length_cons, Nat.succ_mul]
    have := flat_le (l := l) fun y hy => h y (List.mem_cons_of_mem _ hy)
    have := h x List.mem_cons_self
    omega
theorem wk_len {n : Nat} : ∀ {m : Nat}, (wk n m).length ≤ n ^ m
  | 0 => Nat.le_refl _
  | m + 1 => by
    have h1 := wk_len (n := n) (m := m)
    have h2 := flat_le (l := wk n m) (b := n) (g := fun w => (List.range (n - lastN w)).map fun i => w ++ [lastN w + i]) fun w _ => by rw [List.length_map, List.length_range]; omega
    rw [Nat.pow_succ]
    exact Nat.le_trans h2 (Nat.mul_le_mul_right _ h1)
theorem lastN_map {m : Nat} {f : Nat → Nat} : lastN ((List.range (m + 1)).map f) = f m := by
  rw [List.range_succ, List.map_append]; exact lastN_snoc
theorem mem_wk {n : Nat} : ∀ {m : Nat} {w : List Nat}, w ∈ wk n m ↔ ∃ f, Mono m 0 n f ∧ w = (List.range m).map f
  | 0, w => by
    constructor
    · intro h
      exact ⟨fun _ => 0, ⟨fun i hi => by omega, fun i hi => by omega⟩, List.mem_singleton.mp h⟩
    · rintro ⟨f, _, e⟩; rw [e]; exact List.mem_singleton.mpr rfl
  | m + 1, w => by
    constructor
    · intro h
      obtain ⟨v, hv, hw⟩ := List.mem_flatMap.mp h
      obtain ⟨i, hi, e⟩ := List.mem_map.mp hw
      have hi := List.mem_range.mp hi
      obtain ⟨f, ⟨f1, f2⟩, ev⟩ := mem_wk.mp hv
      refine ⟨fun j => if j < m then f j else lastN v + i, ⟨fun j hj => ⟨Nat.zero_le _, ?_⟩, fun j hj => ?_⟩, ?_⟩
      · show (if j < m then f j else lastN v + i) < n
        split
        · exact (f1 j (by omega)).2
        · omega
      · show (if j < m then f j else lastN v + i) ≤ (if j + 1 < m then f (j + 1) else lastN v + i)
        rw [if_pos (by omega)]
        split
        · exact f2 j (by omega)
        · have hm : m = j + 1 := by omega
          subst hm
          rw [ev, lastN_map]; omega
      · rw [← e, List.range_succ, List.map_append, ev]
        congr 1
        · refine List.map_congr_left fun j hj => ?_
          rw [if_pos (List.mem_range.mp hj)]
        · show [_] = [if m < m then f m else _]
          rw [if_neg (Nat.lt_irrefl _)]
    · rintro ⟨f, ⟨f1, f2⟩, e⟩
      refine List.mem_flatMap.mpr ⟨(List.range m).map f, mem_wk.mpr ⟨f, ⟨fun i hi => f1 i (by omega), fun i hi => f2 i (by omega)⟩, rfl⟩, ?_⟩
      have hl : lastN ((List.range m).map f) ≤ f m := by
        cases m with
        | zero => exact Nat.zero_le _
        | succ m => rw [lastN_map]; exact f2 m (by omega)
      have := (f1 m (by omega)).2
      refine List.mem_map.mpr ⟨f m - lastN ((List.range m).map f), List.mem_range.mpr (by omega), ?_⟩
      rw [e, List.range_succ, List.map_append, show lastN ((List.range m).map f) + (f m - lastN ((List.range m).map f)) = f m by omega]; rfl
/-- what a walk reads -/
def wcont (k L : Nat) (P : List (List Nat)) (back : Bool) (w : List Nat) : List Nat := (rdB k L P fun b => (if back then w.reverse else w).getD b 0).flatten
theorem range_getD {m : Nat} {f : Nat → Nat} {b : Nat} (h : b < m) : ((List.range m).map f).getD b 0 = f b := by
  rw [List.getD_eq_getElem?_getD, List.getElem?_map, List.getElem?_range h]; rfl
theorem range_getDr {m : Nat} {f : Nat → Nat} {b : Nat} (h : b < m) : ((List.range m).map f).reverse.getD b 0 = f (m - 1 - b) := by
  rw [range_rev, range_getD h]
theorem wk_cp {k L : Nat} {P : List (List Nat)} {back : Bool} {c : List Nat} : (∃ w ∈ wk P.length (nB k L), wcont k L P back w = c) ↔ Cp k L (dirS P back) c := by
  constructor
  · rintro ⟨w, hw, rfl⟩
    obtain ⟨f, hf, rfl⟩ := mem_wk.mp hw
    cases back with
    | false =>
      refine cp_F.mpr ⟨f, hf, ?_⟩
      unfold wcont
      congr 1
      unfold rdB rdF
      refine List.map_congr_left fun b hb => ?_
      show bAt k (P.getD (((List.range (nB k L)).map f).getD b 0) []) b = bAt k (P.getD (f b) []) b
      rw [range_getD (List.mem_range.mp hb)]
    | true =>
      refine cp_F.mpr ⟨fun b => P.length - 1 - f (nB k L - 1 - b), ⟨fun b hb => ⟨Nat.zero_le _, ?_⟩, fun b hb => ?_⟩, ?_⟩
      · have := (hf.1 (nB k L - 1 - b) (by omega)).2
        show P.length - 1 - f (nB k L - 1 - b) < (dirS P true).length
        rw [dir_len]; omega
      · have := mono_lt hf (a := nB k L - 1 - (b + 1)) (b := nB k L - 1 - b) (by omega) (by omega)
        show P.length - 1 - f (nB k L - 1 - b) ≤ P.length - 1 - f (nB k L - 1 - (b + 1)); omega
      · unfold wcont
        congr 1
        unfold rdB rdF
        refine List.map_congr_left fun b hb => ?_
        have hb := List.mem_range.mp hb
        have := (hf.1 (nB k L - 1 - b) (by omega)).2
        show bAt k (P.getD (((List.range (nB k L)).map f).reverse.getD b 0) []) b = _
        rw [range_getDr hb]
        show bAt k (P.getD (f (nB k L - 1 - b)) []) b = bAt k (P.reverse.getD (P.length - 1 - f (nB k L - 1 - b)) []) b
        rw [rev_getD (by omega), show P.length - 1 - (P.length - 1 - f (nB k L - 1 - b)) = f (nB k L - 1 - b) by omega]
  · intro h
    obtain ⟨f, hf, e⟩ := cp_F.mp h
    rw [dir_len] at hf
    cases back with
    | false =>
      refine ⟨_, mem_wk.mpr ⟨f, hf, rfl⟩, ?_⟩
      rw [e]
      unfold wcont
      congr 1
      unfold rdB rdF
      refine List.map_congr_left fun b hb => ?_
      show bAt k (P.getD (((List.range (nB k L)).map f).getD b 0) []) b = bAt k (P.getD (f b) []) b
      rw [range_getD (List.mem_range.mp hb)]
    | true =>
      refine ⟨(List.range (nB k L)).map fun b => P.length - 1 - f (nB k L - 1 - b), mem_wk.mpr ⟨fun b => P.length - 1 - f (nB k L - 1 - b), ⟨fun b hb => ⟨Nat.zero_le _, ?_⟩, fun b hb => ?_⟩, rfl⟩, ?_⟩
      · have := (hf.1 (nB k L - 1 - b) (by omega)).2
        show P.length - 1 - f (nB k L - 1 - b) < P.length
        omega
      · have := mono_lt hf (a := nB k L - 1 - (b + 1)) (b := nB k L - 1 - b) (by omega) (by omega)
        show P.length - 1 - f (nB k L - 1 - b) ≤ P.length - 1 - f (nB k L - 1 - (b + 1)); omega
      · rw [e]
        unfold wcont
        congr 1
        unfold rdB rdF
        refine List.map_congr_left fun b hb => ?_
        have hb := List.mem_range.mp hb
        have := (hf.1 b hb).2
        show bAt k (P.getD (((List.range (nB k L)).map fun b => P.length - 1 - f (nB k L - 1 - b)).reverse.getD b 0) []) b = _
        rw [range_getDr (f := fun b => P.length - 1 - f (nB k L - 1 - b)) hb]
        show bAt k (P.getD (P.length - 1 - f (nB k L - 1 - (nB k L - 1 - b))) []) b = bAt k (P.reverse.getD (f b) []) b
        rw [rev_getD this, show nB k L - 1 - (nB k L - 1 - b) = b by omega]
theorem foldC {α β : Type} {f : List β → α → Res (List β)} {g : α → List β} {B : Nat} : ∀ {xs : List α} {s : List β}, s.length + (xs.flatMap g).length ≤ B → (∀ s x, x ∈ xs → s.length + (g x).length ≤ B → f s x = .ok (s ++ g x)) → foldR f xs s = .ok (s ++ xs.flatMap g)
  | [], s, _, _ => by rw [List.flatMap_nil, List.append_nil]; rfl
  | x :: xs, s, hb, h => by
    rw [List.flatMap_cons, List.length_append] at hb
    rw [foldR_cons, h s x List.mem_cons_self (by omega), bind_ok, foldC (by rw [List.length_append]; omega) fun s y hy => h s y (List.mem_cons_of_mem _ hy), List.flatMap_cons, List.append_assoc]
theorem walks_val {n m : Nat} (hn : n ≤ 10) (hm : m ≤ 4) : m_law_walks (n : Int) (m : Int) = .ok ((wk n m).map (List.map Int.ofNat)) := by
  have hB : ∀ i, i ≤ 4 → (wk n i).length ≤ 10000 := fun i hi => Nat.le_trans wk_len (Nat.le_trans (Nat.pow_le_pow_left hn i) (Nat.le_trans (Nat.pow_le_pow_right (by decide) hi) (by decide)))
  unfold m_law_walks
  rw [guard_ok (small62_of (by omega) (by omega)), bind_ok, Int.toNat_natCast]
  have := foldR_range (lo := (0 : Int)) (n := m) (f := fun (s1 : (List (List Int))) x2 => (foldR (fun (s5 : (List (List Int))) x6 => (pcatL ([(0 : Int)] : List Int) x6).bind fun z9 => (pix z9 (-(1 : Int))).bind fun z10 => (guard (small62 z10 ∧ small62 (n : Int)) ()).bind fun _ => (compR (β := (List Int)) (fun x11 => (pcatL x6 ([x11] : List Int)).bind fun z12 => Res.ok (some z12)) (rangeL z10 (Int.toNat ((n : Int) - z10)))).bind fun l13 => (pcatL s5 l13).bind fun z14 => Res.ok z14) s1 ([] : List (List Int))).bind fun s5 => Res.ok s5) (fun i => (wk n i).map (List.map Int.ofNat)) (fun i hi => by
    have hw := hB (i + 1) (by omega)
    have e : ((wk n i).map (List.map Int.ofNat)).flatMap (fun x6 => ((List.range (n - lastN (x6.map Int.toNat))).map fun j => x6 ++ [((lastN (x6.map Int.toNat) + j : Nat) : Int)])) = (wk n (i + 1)).map (List.map Int.ofNat) := by
      show _ = ((wk n i).flatMap _).map _
      rw [List.map_flatMap, List.flatMap_map]
      congr 1
      funext w
      have ew : (w.map Int.ofNat).map Int.toNat = w := by
        rw [List.map_map]
        conv => rhs; rw [← List.map_id w]
        exact List.map_congr_left fun x _ => rfl
      rw [ew, List.map_map]
      refine List.map_congr_left fun j _ => ?_
      show w.map Int.ofNat ++ [_] = (w ++ [lastN w + j]).map Int.ofNat
      rw [List.map_append]; rfl
    rw [foldC (B := 10000) (g := fun x6 => ((List.range (n - lastN (x6.map Int.toNat))).map fun j => x6 ++ [((lastN (x6.map Int.toNat) + j : Nat) : Int)])) (by rw [e, List.length_map]; simpa using hw) fun s x6 hx hs => by
      obtain ⟨w, hwm, rfl⟩ := List.mem_map.mp hx
      have ew : (w.map Int.ofNat).map Int.toNat = w := by
        rw [List.map_map]
        conv => rhs; rw [← List.map_id w]
        exact List.map_congr_left fun x _ => rfl
      obtain ⟨f, ⟨f1, _⟩, ef⟩ := mem_wk.mp hwm
      have hwl : w.length ≤ 4 := by rw [ef, List.length_map, List.length_range]; omega
      rw [ew] at hs ⊢
      have hl : lastN w ≤ n := by
        cases i with
        | zero => rw [ef]; exact Nat.zero_le _
        | succ i => rw [ef, lastN_map]; exact Nat.le_of_lt (f1 i (by omega)).2
      have e0 : pcatL ([(0 : Int)] : List Int) (w.map Int.ofNat) = .ok ((0 :: w).map Int.ofNat) := guard_ok (by rw [List.length_map, sz]; simp; omega)
      have e1 : pix ((0 :: w).map Int.ofNat) (-(1 : Int)) = .ok ((lastN w : Nat) : Int) := by
        have : 0 :: w = (0 :: w).dropLast ++ [lastN w] := (List.dropLast_concat_getLast (List.cons_ne_nil _ _)).symm
        rw [this, List.map_append]; exact pixm1
      rw [e0, bind_ok, e1, bind_ok, guard_ok ⟨small62_of (by omega) (by omega), small62_of (by omega) (by omega)⟩, bind_ok, show Int.toNat ((n : Int) - ((lastN w : Nat) : Int)) = n - lastN w by omega,
        compR_map (fun x => w.map Int.ofNat ++ [x]) (by rw [rangeL_length, sz]; omega) fun x _ => by
          rw [show pcatL (w.map Int.ofNat) [x] = .ok (w.map Int.ofNat ++ [x]) from guard_ok (by rw [List.length_map, sz]; simp; omega)]; rfl, bind_ok]
      have e2 : (rangeL ((lastN w : Nat) : Int) (n - lastN w)).map (fun x => w.map Int.ofNat ++ [x]) = (List.range (n - lastN w)).map fun j => w.map Int.ofNat ++ [((lastN w + j : Nat) : Int)] := by
        unfold rangeL
        rw [List.map_map]
        refine List.map_congr_left fun j _ => ?_
        show w.map Int.ofNat ++ [_] = w.map Int.ofNat ++ [_]
        congr 2
      rw [e2, show pcatL s ((List.range (n - lastN w)).map fun j => w.map Int.ofNat ++ [((lastN w + j : Nat) : Int)]) = .ok (s ++ (List.range (n - lastN w)).map fun j => w.map Int.ofNat ++ [((lastN w + j : Nat) : Int)]) from guard_ok (by rw [sz]; omega), bind_ok], bind_ok, List.nil_append, e])
  show (foldR _ _ ((wk n 0).map (List.map Int.ofNat))).bind _ = _
  rw [this, bind_ok]
theorem eq_val {a b : Str} : m_File_eq a b = .ok (decide (a = b)) := by
  unfold m_File_eq; rw [andR_ok]; rfl
theorem eqne_val {a b : Str} : (m_File_eq a b).ne = .ok (decide (a = b)) := by rw [eq_val]; rfl
theorem okS_t {c : List Nat} (h : TxtS c) : pyS.ok (mk c) = true := by
  show c.toArray.all (fun x => decide (x < 0x110000)) = true
  rw [List.all_toArray]
  refine List.all_eq_true.mpr fun x hx => decide_eq_true ?_
  have := List.all_eq_true.mp h x hx
  unfold okT at this
  simp only [Bool.or_eq_true, beq_iff_eq, Bool.and_eq_true, decide_eq_true_eq] at this
  omega
theorem okWs {ws : List Wr} (h : ∀ w ∈ ws, TxtS w.2) : (pyL (py2 pyI pyS)).ok (ws.map wrV) = true := List.all_eq_true.mpr fun x hx => by
  obtain ⟨w, hw, rfl⟩ := List.mem_map.mp hx
  show (true && pyS.ok (mk w.2)) = true
  rw [okS_t (h w hw)]; rfl
theorem wrV_inj {ws vs : List Wr} : ws.map wrV = vs.map wrV ↔ ws = vs := by
  refine ⟨fun h => ?_, fun h => by rw [h]⟩
  refine (List.map_inj_right fun a b e => ?_).mp h
  injection e with e1 e2
  exact Prod.ext (Int.ofNat.inj e1) (mk_inj.mp e2)
theorem eqWs {ws vs : List Wr} (h : ∀ w ∈ ws, TxtS w.2) (g : ∀ w ∈ vs, TxtS w.2) : peq (pyL (py2 pyI pyS)).ok (ws.map wrV) (vs.map wrV) = .ok (decide (ws = vs)) := by
  rw [peq_ok (okWs h) (okWs g)]
  congr 1
  rw [Bool.eq_iff_iff, decide_eq_true_eq, decide_eq_true_eq, wrV_inj]
theorem his_eqv {l l2 : List Nat} {ws ws2 : List Wr} (h : ∀ w ∈ ws, TxtS w.2) (g : ∀ w ∈ ws2, TxtS w.2) : m_History_eq (hisV l ws) (hisV l2 ws2) = .ok (decide (l = l2) && decide (ws = ws2)) := by
  unfold m_History_eq
  show ((andR (Res.ok true) (andR ((m_File_eq (mk l) (mk l2)).ne.bind _) ((peq (pyL (py2 pyI pyS)).ok (ws.map wrV) (ws2.map wrV)).bind _))).bind _) = _
  rw [eqne_val, bind_ok, eqWs h g, bind_ok, andR_ok, cond_true, andR_ok, mk_dec]
  cases decide (l = l2) <;> rfl
theorem w_txt {l : List Nat} {ws : List Wr} (h : HistOk l ws) : ∀ w ∈ ws, TxtS w.2 := fun w hw => (h.w w hw).t
theorem his_self {l : List Nat} {ws : List Wr} (h : HistOk l ws) : m_History_eq (hisV l ws) (hisV l ws) = .ok true := by
  rw [his_eqv (w_txt h) (w_txt h), decide_eq_true rfl, decide_eq_true rfl]; rfl
theorem law_read_val_k52 {S : List (List Nat)} {L : Nat} (hS : StsOk L S) {n : Int} (hn : SzOk n) {w : List Nat} (hw : w.length = nB n.toNat L) (hb : ∀ t ∈ w, t < S.length) {back : Bool} : m_law_read (S.map mk) n (w.map Int.ofNat) back = .ok (mk (wcont n.toNat L S back w)) := by
  have hk : 1 ≤ n.toNat := by have := hn.1; omega
  have hL := hS.l
  have hnb := nB_le (L := L) hk
  unfold m_law_read
  rw [law_rows_val hS hn, bind_ok]
  have ec : (cond back (Res.ok (w.map Int.ofNat).reverse) (Res.ok (w.map Int.ofNat))) = .ok ((if back then w.reverse else w).map Int.ofNat) := by
    cases back
    · rfl
    · rw [cond_true, ← List.map_reverse]; rfl
  rw [ec, bind_ok]
  have hvl : (if back then w.reverse else w).length = nB n.toNat L := by split <;> simp [hw]
  have hvb : ∀ t ∈ (if back then w.reverse else w), t < S.length := fun t ht => by
    split at ht
    · exact hb t (List.mem_reverse.mp ht)
    · exact hb t ht
  unfold wcont
  generalize (if back then w.reverse else w) = v at hvl hvb
  rw [List.length_map, hvl, guard_ok (small62_of (by omega) (by omega)), bind_ok, Int.toNat_natCast]
  rw [compR_map (fun x => mk (bAt n.toNat (S.getD (v.getD x.toNat 0) []) x.toNat)) (by rw [rangeL_length, sz]; omega) fun x hx => by
    have hx := mem_rangeL.mp hx
    obtain ⟨i, rfl⟩ := Int.eq_ofNat_of_zero_le hx.1
    have hi : i < nB n.toNat L := by omega
    have hvi : v.getD i 0 < S.length := by rw [getD_at (by omega)]; exact hvb _ (List.getElem_mem _)
    have hs : S.getD (v.getD i 0) [] ∈ S := by rw [getD_at hvi]; exact List.getElem_mem _
    have e1 : pix (v.map Int.ofNat) (i : Int) = .ok ((v.getD i 0 : Nat) : Int) := map_at (f := Int.ofNat) (d := 0) (by omega)
    rw [e1, bind_ok, map_at (d := []) hvi, bind_ok, blkmk_at (by rw [blk_nB (hS.s _ hs).1]; exact hi), bind_ok, Int.toNat_natCast], bind_ok]
  have em : ((rangeL 0 (nB n.toNat L)).map fun x => mk (bAt n.toNat (S.getD (v.getD x.toNat 0) []) x.toNat)) = (rdB n.toNat L S fun b => v.getD b 0).map mk := by
    unfold rdB
    rw [rangeL_map, List.map_map, List.map_map]
    exact List.map_congr_left fun b _ => rfl
  rw [em]
  have hrd := rd_ok hk hS (f := fun b => v.getD b 0) fun b hb => by
    show v.getD b 0 < _
    rw [getD_at (by omega)]; exact hvb _ (List.getElem_mem _)
  rw [pjoin_mk (by
    rw [List.map_map, show ((fun z : Str => z.length) ∘ mk) = List.length from funext fun z => mk_len, ← List.length_flatten]
    have := hrd.1
    omega), bind_ok, List.map_map, show signsL ∘ mk = id from funext fun z => signs_mk, List.map_id]
theorem dget_cons {β : Type} {p : Str × β} {ds : List (Str × β)} {k : Str} : dget (p :: ds) k = if p.1 = k then some p.2 else dget ds k := gget_cons
theorem dget_put {β : Type} {v : β} {k k2 : Str} : ∀ {ds : List (Str × β)}, dget (dput ds k v) k2 = if k = k2 then some v else dget ds k2 := fun {ds} => by
  have app : ∀ ds : List (Str × β), (dget ds k).isSome = false → dget (ds ++ [(k, v)]) k2 = if k = k2 then some v else dget ds k2 := fun ds => by
    induction ds with
    | nil =>
      intro _
      rw [List.nil_append, dget_cons]
    | cons p ds ih =>
      intro h
      rw [dget_cons] at h
      by_cases e : p.1 = k
      · rw [if_pos e] at h; cases h
      · rw [if_neg e] at h
        rw [List.cons_append, dget_cons, ih h, dget_cons]
        by_cases g : p.1 = k2
        · rw [if_pos g, if_pos g, if_neg (fun z => e (g.trans z.symm))]
        · rw [if_neg g, if_neg g]
  have rep : ∀ ds : List (Str × β), (dget ds k).isSome = true → dget (ds.map fun p => if p.1 = k then (p.1, v) else p) k2 = if k = k2 then some v else dget ds k2 := fun ds => by
    induction ds with
    | nil => intro h; cases h
    | cons p ds ih =>
      intro h
      rw [List.map_cons, dget_cons, dget_cons]
      rw [dget_cons] at h
      by_cases e : p.1 = k
      · rw [if_pos e]
        by_cases g : k = k2
        · rw [if_pos g, if_pos (e.trans g)]
        · rw [if_neg g, if_neg (fun z => g (e.symm.trans z)), if_neg (fun z => g (e.symm.trans z))]
          by_cases hd : (dget ds k).isSome = true
          · rw [ih hd, if_neg g]
          · have same : ∀ ds : List (Str × β), (dget ds k).isSome = false → (ds.map fun p => if p.1 = k then (p.1, v) else p) = ds := fun ds => by
              induction ds with
              | nil => intro _; rfl
              | cons q ds ih2 =>
                intro h
                rw [dget_cons] at h
                by_cases e : q.1 = k
                · rw [if_pos e] at h; cases h
                · rw [if_neg e] at h
                  rw [List.map_cons, if_neg e, ih2 h]
            rw [same ds (by simpa using hd)]
      · rw [if_neg e] at h
        rw [if_neg e, ih h]
        by_cases g : p.1 = k2
        · rw [if_pos g, if_pos g, if_neg (fun z => e (g.trans z.symm))]
        · rw [if_neg g, if_neg g]
  unfold dput
  split
  · rename_i h; exact rep ds h
  · rename_i h; exact app ds (by simpa using h)
theorem dget_mem {β : Type} {k : Str} : ∀ {ds : List (Str × β)}, (dget ds k).isSome = true ↔ k ∈ ds.map (·.1)
  | [] => by simp [dget]
  | p :: ds => by
    rw [dget_cons, List.map_cons, List.mem_cons]
    by_cases e : p.1 = k
    · rw [if_pos e]; exact ⟨fun _ => .inl e.symm, fun _ => rfl⟩
    · rw [if_neg e, dget_mem]
      exact ⟨.inr, fun h => h.resolve_left fun z => e z.symm⟩
theorem dput_keys {β : Type} {ds : List (Str × β)} {k : Str} {v : β} (nd : (ds.map (·.1)).Nodup) : ((dput ds k v).map (·.1)).Nodup ∧ (dput ds k v).length ≤ ds.length + 1 := by
  unfold dput
  split
  · refine ⟨?_, by rw [List.length_map]; omega⟩
    rw [List.map_map]
    have : ((fun p : Str × β => p.1) ∘ fun p => if p.1 = k then (p.1, v) else p) = (·.1) := funext fun p => by
      show (if p.1 = k then (p.1, v) else p).1 = p.1
      split <;> rfl
    rw [this]; exact nd
  · rename_i h
    refine ⟨?_, by simp⟩
    rw [List.map_append]
    refine List.nodup_append.mpr ⟨nd, by simp, fun a ha b hb => ?_⟩
    rw [List.mem_singleton.mp (by simpa using hb : b ∈ [k])]
    intro e
    exact h (dget_mem.mpr (by rw [← e]; exact ha))
/-- what stands at a content -/
def grp {α β : Type} (cont : α → Str) (mom : α → β) (ws : List α) (c : Str) : Option (List β) := if (ws.filter fun w => decide (cont w = c)) = [] then none else some ((ws.filter fun w => decide (cont w = c)).map mom)
theorem grp_snoc {α β : Type} {cont : α → Str} {mom : α → β} {ws : List α} {w : α} {c : Str} : grp cont mom (ws ++ [w]) c = if cont w = c then some ((grp cont mom ws c).getD [] ++ [mom w]) else grp cont mom ws c := by
  unfold grp
  rw [List.filter_append]
  by_cases e : cont w = c
  · rw [if_pos e, show ([w].filter fun w => decide (cont w = c)) = [w] by simp [e], if_neg (by simp), List.map_append]
    by_cases g : (ws.filter fun w => decide (cont w = c)) = []
    · rw [if_pos g, g]; rfl
    · rw [if_neg g]; rfl
  · rw [if_neg e, show ([w].filter fun w => decide (cont w = c)) = [] by simp [e], List.append_nil]
theorem grp_len {α β : Type} {cont : α → Str} {mom : α → β} {ws : List α} {c : Str} : ((grp cont mom ws c).getD []).length ≤ ws.length := by
  unfold grp
  split
  · exact Nat.zero_le _
  · show ((ws.filter _).map mom).length ≤ _
    rw [List.length_map]; exact List.length_filter_le _ _
theorem foldR_map {α γ σ : Type} {f : σ → γ → Res σ} {g : α → γ} : ∀ {xs : List α} {s : σ}, foldR f (xs.map g) s = foldR (fun s x => f s (g x)) xs s
  | [], _ => rfl
  | x :: xs, s => by
    rw [List.map_cons, foldR_cons, foldR_cons]
    congr 1
    funext s2
    exact foldR_map
theorem grp_fold {α β : Type} {cont : α → Str} {mom : α → β} {f : List (Str × List β) → α → Res (List (Str × List β))} : ∀ {ws done : List α} {d : List (Str × List β)}, (∀ c, dget d c = grp cont mom done c) → (d.map (·.1)).Nodup → d.length ≤ done.length →
    (∀ d w, w ∈ ws → d.length < done.length + ws.length → (∀ c, ((dget d c).getD []).length < done.length + ws.length) → f d w = .ok (dput d (cont w) ((dget d (cont w)).getD [] ++ [mom w]))) → ∃ d2, foldR f ws d = .ok d2 ∧ (∀ c, dget d2 c = grp cont mom (done ++ ws) c) ∧ (d2.map (·.1)).Nodup ∧ d2.length ≤ done.length + ws.length
  | [], done, d, h, nd, hl, _ => ⟨d, rfl, by rw [List.append_nil]; exact h, nd, by simpa using hl⟩
  | w :: ws, done, d, h, nd, hl, hf => by
    have e1 := hf d w List.mem_cons_self (by rw [List.length_cons]; omega) (fun c => by
      have := grp_len (cont := cont) (mom := mom) (ws := done) (c := c)
      rw [h, List.length_cons]; omega)
    obtain ⟨k1, k2⟩ := dput_keys (k := cont w) (v := (dget d (cont w)).getD [] ++ [mom w]) nd
    obtain ⟨d2, e2, h2, n2, l2⟩ := grp_fold (ws := ws) (done := done ++ [w]) (d := dput d (cont w) ((dget d (cont w)).getD [] ++ [mom w])) (fun c => by
      rw [dget_put, grp_snoc, h]
      by_cases e : cont w = c
      · rw [if_pos e, if_pos e, e]
      · rw [if_neg e, if_neg e, h]) k1 (by rw [List.length_append]; simp; omega) (fun d v hv hd hg => hf d v (List.mem_cons_of_mem _ hv) (by rw [List.length_append] at hd; simp at hd; rw [List.length_cons]; omega) (fun c => by have := hg c; rw [List.length_append] at this; simp at this; rw [List.length_cons]; omega))
    refine ⟨d2, by rw [foldR_cons, e1, bind_ok]; exact e2, by rw [show done ++ w :: ws = done ++ [w] ++ ws by simp]; exact h2, n2, ?_⟩
    rw [List.length_append] at l2
    simp at l2
    rw [List.length_cons]; omega
theorem walk_at {m : Nat} {f : Nat → Nat} {b : Nat} (h : b < m) : ((List.range m).map f).getD b 0 = f b := by
  rw [List.getD_eq_getElem?_getD, List.getElem?_map, List.getElem?_range h]; rfl
theorem bAt_len_k52 {k L : Nat} {s : List Nat} (hs : s.length = L) {b : Nat} (hb : b < nB k L) : (bAt k s b).length = min k (L - b * k) := by
  unfold bAt
  rw [getD_at (by rw [blk_nB hs]; exact hb)]
  simp only [blk, List.getElem_map, List.getElem_range]
  rw [List.length_take, List.length_drop, hs]
abbrev momW (back : Bool) (w : List Nat) : List Nat := if back then w.reverse else w
theorem momW_inv {back : Bool} {w : List Nat} : momW back (momW back w) = w := by cases back <;> simp [momW]
theorem momW_len {back : Bool} {w : List Nat} : (momW back w).length = w.length := by cases back <;> simp [momW]
theorem pw_rises {nb : Nat} {down : Bool} {m : Nat → Nat} (v : (ordL nb down).Pairwise fun a b => m a ≤ m b) : Rises nb down m := fun a b hab hb => by
  unfold ordL at v
  cases down with
  | false =>
    rw [if_neg (by decide)] at v ⊢
    have := List.pairwise_iff_getElem.mp v a b (by rw [List.length_range]; omega) (by rw [List.length_range]; omega) hab
    rwa [List.getElem_range, List.getElem_range] at this
  | true =>
    rw [if_pos rfl] at v ⊢
    rw [List.pairwise_reverse] at v
    have := List.pairwise_iff_getElem.mp v a b (by rw [List.length_range]; omega) (by rw [List.length_range]; omega) hab
    rwa [List.getElem_range, List.getElem_range] at this
theorem wk_rises {N nb : Nat} {back : Bool} {w : List Nat} (h : w ∈ wk N nb) : w.length = nb ∧ Rises nb back (fun b => (momW back w).getD b 0) ∧ ∀ b, b < nb → (momW back w).getD b 0 < N := by
  obtain ⟨g, hg, rfl⟩ := mem_wk.mp h
  refine ⟨by rw [List.length_map, List.length_range], fun a b hab hb => ?_, fun b hb => ?_⟩
  · cases back with
    | false =>
      show ((List.range nb).map g).getD a 0 ≤ ((List.range nb).map g).getD b 0
      rw [walk_at (by omega), walk_at hb]
      exact mono_lt hg (by omega) hb
    | true =>
      show ((List.range nb).map g).reverse.getD b 0 ≤ ((List.range nb).map g).reverse.getD a 0
      rw [range_getDr hb, range_getDr (by omega)]
      exact mono_lt hg (by omega) (by omega)
  · cases back with
    | false =>
      show ((List.range nb).map g).getD b 0 < N
      rw [walk_at hb]; exact (hg.1 b hb).2
    | true =>
      show ((List.range nb).map g).reverse.getD b 0 < N
      rw [range_getDr hb]; exact (hg.1 _ (by omega)).2
theorem rev_getN {l : List Nat} {i : Nat} (h : i < l.length) : l.reverse.getD i 0 = l.getD (l.length - 1 - i) 0 := by
  rw [List.getD_eq_getElem?_getD, List.getElem?_reverse h, ← List.getD_eq_getElem?_getD]
theorem rows_min {k L : Nat} (hk : 1 ≤ k) {S : List (List Nat)} (hS : StsOk L S) {back : Bool} {c : List Nat} (hc : c.length = L) {ms : List Nat} (he : earlyS k L S c back = (some ms, none)) (hl : ms.length = nB k L) :
    (momW back ms ∈ wk S.length (nB k L) ∧ wcont k L S back (momW back ms) = c) ∧ ∀ w ∈ wk S.length (nB k L), wcont k L S back w = c → ∀ b, b < nB k L → ms.getD b 0 ≤ (momW back w).getD b 0 := by
  obtain ⟨v1, v2, _⟩ := early_valid (ordL_nodup (nb := nB k L) (down := back)) (fun b hb => by rw [List.length_replicate]; exact ordL_mem.mp hb) he
  have hr := pw_rises v2
  have hb : ∀ b, b < nB k L → ms.getD b 0 < S.length := fun b hb => (v1 b (ordL_mem.mpr hb)).2.1
  refine ⟨⟨mem_wk.mpr ⟨fun i => (momW back ms).getD i 0, ⟨fun i hi => ⟨Nat.zero_le _, ?_⟩, fun i hi => ?_⟩, ?_⟩, ?_⟩, fun w hw e b hb2 => ?_⟩
  · cases back with
    | false => exact hb i hi
    | true =>
      show ms.reverse.getD i 0 < _
      rw [rev_getN (by omega), hl]; exact hb _ (by omega)
  · cases back with
    | false => exact hr i (i + 1) (by omega) hi
    | true =>
      show ms.reverse.getD i 0 ≤ ms.reverse.getD (i + 1) 0
      rw [rev_getN (by omega), rev_getN (by omega)]
      have := hr (ms.length - 1 - (i + 1)) (ms.length - 1 - i) (by omega) (by omega)
      exact this
  · refine List.ext_getElem (by rw [momW_len, List.length_map, List.length_range, hl]) fun i i1 i2 => ?_
    rw [List.getElem_map, List.getElem_range, getD_at i1]
  · show (rdB k L S fun b => (momW back (momW back ms)).getD b 0).flatten = c
    rw [momW_inv]
    conv => rhs; rw [← blk_flat hk c]
    congr 1
    refine List.ext_getElem (by unfold rdB; rw [List.length_map, List.length_range, blk_nB hc]) fun i i1 i2 => ?_
    have hi : i < nB k L := by rwa [blk_nB hc] at i2
    have := of_decide_eq_true (v1 i (ordL_mem.mpr hi)).2.2
    simp only [rdB, List.getElem_map, List.getElem_range]
    rw [this]
    unfold bAt
    rw [getD_at i2]
  · obtain ⟨w1, w2, w3⟩ := wk_rises (back := back) hw
    obtain ⟨m2, e1, _, e3⟩ := early_of_read hk hS w2 w3
    have e : (rdB k L S fun b => (momW back w).getD b 0).flatten = c := e
    rw [e, he] at e1
    injection e1 with e1 _
    injection e1 with e1
    rw [e1]
    exact e3 b hb2
theorem colB_same {k L : Nat} {P : List (List Nat)} (hP : StsOk L P) : ∀ c ∈ colB k L P, ∃ m, ∀ x ∈ c, x.length = m := fun c hc => by
  obtain ⟨b, hb, rfl⟩ := List.mem_map.mp hc
  refine ⟨min k (L - b * k), fun x hx => ?_⟩
  obtain ⟨s, hs, rfl⟩ := List.mem_map.mp hx
  exact bAt_len_k52 (hP.s s hs).1 (List.mem_range.mp hb)
theorem srtS_uniq {A B : List Str} (a1 : A.Pairwise fun a b => leD pyS a b = true) (a2 : A.Nodup) (b1 : B.Pairwise fun a b => leD pyS a b = true) (b2 : B.Nodup) (h : ∀ x, x ∈ A ↔ x ∈ B) : A = B :=
  List.Perm.eq_of_pairwise (le := fun a b => leD pyS a b = true) (fun _ _ _ _ h1 h2 => leS_anti h1 h2) a1 b1 (perm_nd b2 (fun x hx => (h x).mpr hx) (Nat.le_antisymm (perm_len a2 fun x hx => (h x).mp hx) (perm_len b2 fun x hx => (h x).mpr hx)))
theorem le_mk {a b : List Nat} (h : a < b) : leD pyS (mk a) (mk b) = true := by
  rw [leD_str]
  exact decide_eq_true (List.le_of_lt h)
theorem lt_srt {E : List (List Nat)} (h : E.Pairwise (· < ·)) : ((E.map mk).Pairwise fun a b => leD pyS a b = true) ∧ (E.map mk).Nodup := by
  refine ⟨List.pairwise_map.mpr (h.imp fun {a b} q => le_mk q), List.pairwise_map.mpr (h.imp fun {a b} q e => ?_)⟩
  have := mk_inj.mp e
  rw [this] at q
  exact List.lt_irrefl _ q
def allT (k L : Nat) (P : List (List Nat)) : List (List Nat) := (List.range (cnt (colB k L P) 0)).map fun i => (unr (colB k L P) 0 i).flatten
theorem allT_lt {k L : Nat} {P : List (List Nat)} (hP : StsOk L P) : (allT k L P).Pairwise (· < ·) := by
  refine List.pairwise_iff_getElem.mpr fun i j hi hj hij => ?_
  have hj2 : j < cnt (colB k L P) 0 := by simpa [allT] using hj
  simp only [allT, List.getElem_map, List.getElem_range]
  exact unr_lt (colB_same hP) hij hj2
theorem mem_allT {k L : Nat} {P : List (List Nat)} {c : List Nat} : c ∈ allT k L P ↔ Cp k L P c := by
  rw [cp_unr]
  unfold allT
  rw [List.mem_map]
  exact ⟨fun ⟨i, h, e⟩ => ⟨i, List.mem_range.mp h, e.symm⟩, fun ⟨i, h, e⟩ => ⟨i, List.mem_range.mpr h, e.symm⟩⟩
theorem mem_mkT {k L : Nat} {P : List (List Nat)} {x : Str} : x ∈ (allT k L P).map mk ↔ ∃ c, x = mk c ∧ Cp k L P c := by
  rw [List.mem_map]
  exact ⟨fun ⟨c, h, e⟩ => ⟨c, e.symm, mem_allT.mp h⟩, fun ⟨c, e, h⟩ => ⟨c, mem_allT.mpr h, e.symm⟩⟩
theorem len_us0 : ∀ {xs : List Str}, (xs.foldr addU []).length ≤ xs.length
  | [] => Nat.le_refl _
  | x :: xs => by
    have h1 := len_us0 (xs := xs)
    have h2 := len_addU (k := x) (l := xs.foldr addU [])
    rw [List.foldr_cons, List.length_cons]; omega
theorem usS_len {xs : List Str} : (usS xs).length ≤ xs.length := by
  unfold usS
  rw [List.length_mergeSort]; exact len_us0
theorem mem_usS {x : Str} {xs : List Str} : x ∈ usS xs ↔ x ∈ xs := by
  unfold usS
  rw [(List.mergeSort_perm _ _).mem_iff, mem_us0]
theorem txt_nil : ("" : Str) = mk [] := by rw [← mk_signs ("" : Str), show signsL ("" : Str) = [] from by decide +kernel]
theorem mixes_o {S : List (List Nat)} {L : Nat} (hS : StsOk L S) (hN : S.length ≤ 10) {n : Int} (hn : SzOk n) (hnb : nB n.toNat L ≤ 4) : (m_law_mixes (S.map mk) n).Ok fun zs => ∀ z ∈ zs, ∃ c, z = mk c ∧ c.length = L ∧ TxtS c := by
  have hk : 1 ≤ n.toNat := by have := hn.1; omega
  have hL := hS.l
  have hne := hS.ne
  have s0 : S.getD 0 [] ∈ S := by rw [getD_at (by omega)]; exact List.getElem_mem _
  have p4 : ∀ i, i ≤ 4 → 10 ^ i ≤ 10000 := fun i hi => Nat.le_trans (Nat.pow_le_pow_right (by decide) hi) (by decide)
  unfold m_law_mixes
  refine be (show pix (S.map mk) (0 : Int) = .ok (mk (S.getD 0 [])) from map_at (t := 0) (by omega)) ?_
  refine be (law_blocks_val hn (by rw [mk_len, (hS.s _ s0).1]; omega)) ?_
  rw [signs_mk, List.length_map, blk_nB (hS.s _ s0).1]
  refine bg (small62_of (by omega) (by omega)) ?_
  rw [Int.toNat_natCast, txt_nil]
  generalize hkk : n.toNat = k at hk hnb
  refine foldIO (fun i s => s.length ≤ 10 ^ i ∧ ∀ z ∈ s, ∃ c, z = mk c ∧ TxtS c ∧ c.length = min (i * k) L) ⟨by simp, fun z hz => ⟨[], List.mem_singleton.mp hz, rfl, by simp⟩⟩ (fun i s hi ⟨h1, h2⟩ => ?_) (fun s ⟨h1, h2⟩ => ?_)
  · have h10 := p4 i (by omega)
    refine be (a := S.map fun s => mk (bAt k s i)) ?_ ?_
    · rw [compR_map (fun x => mk (bAt k (signsL x) i)) (by rw [List.length_map, sz]; omega) fun x hx => by
        obtain ⟨s, hs, rfl⟩ := List.mem_map.mp hx
        rw [law_blocks_val hn (by rw [mk_len, (hS.s s hs).1]; omega), bind_ok, signs_mk, hkk, Int.zero_add, blkmk_at (by rw [blk_nB (hS.s s hs).1]; exact hi), bind_ok], List.map_map]
      congr 1
    refine be (a := usS (S.map fun s => mk (bAt k s i))) (guard_ok (by rw [List.length_map]; omega)) ?_
    have ul : (usS (S.map fun s => mk (bAt k s i))).length ≤ 10 := Nat.le_trans usS_len (by rw [List.length_map]; exact hN)
    have um : ∀ x ∈ usS (S.map fun s => mk (bAt k s i)), ∃ b, x = mk b ∧ TxtS b ∧ b.length = min k (L - i * k) := fun x hx => by
      obtain ⟨s, hs, rfl⟩ := List.mem_map.mp (mem_usS.mp hx)
      exact ⟨_, rfl, bAt_txt (hS.s s hs).2, bAt_len_k52 (hS.s s hs).1 hi⟩
    generalize usS (S.map fun s => mk (bAt k s i)) = U at ul um
    have fl := flat_le (l := U) (b := s.length) (g := fun x13 => s.map fun x16 => mk (signsL x16 ++ signsL x13)) fun x _ => by rw [List.length_map]; exact Nat.le_refl _
    have fl2 : (U.flatMap fun x13 => s.map fun x16 => mk (signsL x16 ++ signsL x13)).length ≤ 10 * s.length := Nat.le_trans fl (Nat.mul_le_mul_right _ ul)
    refine be (a := [] ++ U.flatMap fun x13 => s.map fun x16 => mk (signsL x16 ++ signsL x13)) (foldC (B := 1000000) (g := fun x13 => s.map fun x16 => mk (signsL x16 ++ signsL x13)) (by simp only [List.length_nil]; omega) fun s12 x13 hx hs => ?_) ?_
    · obtain ⟨b, rfl, hb, hbl⟩ := um x13 hx
      rw [List.length_map] at hs
      rw [compR_map (fun x16 => mk (signsL x16 ++ signsL (mk b))) (by rw [sz]; omega) fun x16 h16 => by
        obtain ⟨c, rfl, hc, hcl⟩ := h2 x16 h16
        rw [pcat_mk (by rw [mk_len, mk_len]; omega), bind_ok], bind_ok]
      rw [show pcatL s12 (s.map fun x16 => mk (signsL x16 ++ signsL (mk b))) = .ok (s12 ++ s.map fun x16 => mk (signsL x16 ++ signsL (mk b))) from guard_ok (by rw [List.length_map, sz]; omega), bind_ok]
    · rw [List.nil_append]
      refine ⟨by rw [Nat.pow_succ]; omega, fun z hz => ?_⟩
      obtain ⟨x, hx, hz⟩ := List.mem_flatMap.mp hz
      obtain ⟨y, hy, rfl⟩ := List.mem_map.mp hz
      obtain ⟨b, rfl, hb, hbl⟩ := um x hx
      obtain ⟨c, rfl, hc, hcl⟩ := h2 y hy
      rw [signs_mk, signs_mk]
      refine ⟨c ++ b, rfl, txt_app hc hb, ?_⟩
      rw [List.length_append, hbl, hcl, Nat.succ_mul]
      generalize i * k = q
      omega
  · have h10 := p4 _ hnb
    refine be (a := s.mergeSort (leD pyS)) (guard_ok (by rw [sz]; omega)) ?_
    intro z hz
    obtain ⟨c, rfl, hc, hcl⟩ := h2 z ((List.mergeSort_perm _ _).mem_iff.mp hz)
    refine ⟨c, rfl, ?_, hc⟩
    rw [hcl]
    have h3 := Nat.div_add_mod (L + k - 1) k
    have h4 := Nat.mod_lt (L + k - 1) (show 0 < k by omega)
    have h5 : nB k L * k = k * ((L + k - 1) / k) := Nat.mul_comm _ _
    rw [h5]
    generalize k * ((L + k - 1) / k) = q at h3
    omega
theorem eqOLself {hn : ∀ a, PyData.eqv ((pyL pyI).py a) .none = false ∧ PyData.eqv .none ((pyL pyI).py a) = false} {a : List Int} : peq (pyO (pyL pyI) hn).ok (some a) (some a) = .ok true := by rw [eqOL, decide_eq_true rfl]
theorem okO2 {hn : ∀ a, PyData.eqv ((py2 pyI pyI).py a) .none = false ∧ PyData.eqv .none ((py2 pyI pyI).py a) = false} {a : Option (Int × Int)} : peq (pyO (py2 pyI pyI) hn).ok a a = .ok true := by
  have : (pyO (py2 pyI pyI) hn).ok a = true := by cases a <;> rfl
  rw [peq_ok this this, decide_eq_true rfl]
theorem okLL {xs : List (List Int)} : xs.all (pyL pyI).ok = true := List.all_eq_true.mpr fun _ _ => okI_L
theorem min_of {ns : List Int} {m : Int} (hm : m ∈ ns) (h : ∀ x ∈ ns, m ≤ x) : pmin ns = .ok m := by
  have hl : 0 < ns.length := List.length_pos_of_mem hm
  have e : minL ns = m := Int.le_antisymm (minL_le m hm) (h _ (minL_mem hl))
  exact (guard_ok hl).trans (by rw [e])
theorem ofNat_getD {v : List Nat} {b : Nat} (h : b < v.length) : (v.map Int.ofNat).getD b 0 = ((v.getD b 0 : Nat) : Int) :=
  (getD_at (by rw [List.length_map]; exact h)).trans (by rw [List.getElem_map, getD_at h]; rfl)
theorem right_true {l : List Nat} {ws : List Wr} (h : HistOk l ws) (hm : ws.length ≤ 9) {n : Int} (hn : SzOk n) (hnb : nB n.toNat l.length ≤ 4) {back : Bool} : m_law_right (hisV l ws) ((sts l ws).map mk) n back = .ok true := by
  have hk : 1 ≤ n.toNat := by have := hn.1; omega
  have hS := sts_ok h
  have hL := h.n
  have hsl : (sts l ws).length = ws.length + 1 := sts_len
  have s0 : (sts l ws).getD 0 [] ∈ sts l ws := by rw [getD_at (by omega)]; exact List.getElem_mem _
  have hwl : (wk (ws.length + 1) (nB n.toNat l.length)).length ≤ 10000 := Nat.le_trans wk_len (Nat.le_trans (Nat.pow_le_pow_left (show ws.length + 1 ≤ 10 by omega) _) (Nat.le_trans (Nat.pow_le_pow_right (by decide) hnb) (by decide)))
  have hcp : ∀ c, (∃ w ∈ wk (ws.length + 1) (nB n.toNat l.length), wcont n.toNat l.length (sts l ws) back w = c) ↔ Cp n.toNat l.length (dirS (sts l ws) back) c := fun c => by
    have := wk_cp (k := n.toNat) (L := l.length) (P := sts l ws) (back := back) (c := c)
    rw [hsl] at this; exact this
  have hH : colH l ws n back = colB n.toNat l.length (dirS (sts l ws) back) := rfl
  -- the lists
  obtain ⟨d2, ed, hg, nd, hdl⟩ := grp_fold (cont := fun w => mk (wcont n.toNat l.length (sts l ws) back w)) (mom := fun w => (momW back w).map Int.ofNat)
    (f := fun (s5 : (List (Str × (List (List Int))))) (w : List Nat) => (fun (s5 : (List (Str × (List (List Int))))) (x6 : List Int) => (m_law_read ((sts l ws).map mk) n x6 back).bind fun z9 => (cond back (Res.ok x6.reverse) (Res.ok x6)).bind fun (s10 : (List Int)) => (pcatL ((gget s5 z9).getD ([] : List (List Int))) ([s10] : List (List Int))).bind fun z14 => (pdput s5 z9 z14).bind fun z15 => Res.ok z15) s5 (w.map Int.ofNat))
    (ws := wk (ws.length + 1) (nB n.toNat l.length)) (done := []) (d := []) (fun c => rfl) List.nodup_nil (Nat.le_refl _) (fun d w hw hd hq => by
      obtain ⟨w1, _, w3⟩ := wk_rises (back := false) hw
      have wb : ∀ t ∈ w, t < (sts l ws).length := fun t ht => by
        obtain ⟨i, hi, e⟩ := List.getElem_of_mem ht
        have := w3 i (by omega)
        have q : (momW false w).getD i 0 = t := by show w.getD i 0 = t; rw [getD_at hi]; exact e
        rw [q] at this; omega
      show ((m_law_read ((sts l ws).map mk) n (w.map Int.ofNat) back).bind _) = _
      rw [law_read_val_k52 hS hn w1 wb, bind_ok]
      have ec : (cond back (Res.ok (w.map Int.ofNat).reverse) (Res.ok (w.map Int.ofNat))) = .ok ((momW back w).map Int.ofNat) := by
        cases back
        · rfl
        · rw [cond_true, ← List.map_reverse]; rfl
      rw [ec, bind_ok]
      have hq := hq (mk (wcont n.toNat l.length (sts l ws) back w))
      simp only [List.length_nil, Nat.zero_add] at hq hd
      have hq2 : ((gget d (mk (wcont n.toNat l.length (sts l ws) back w))).getD ([] : List (List Int))).length < (wk (ws.length + 1) (nB n.toNat l.length)).length := hq
      rw [show pcatL ((gget d (mk (wcont n.toNat l.length (sts l ws) back w))).getD ([] : List (List Int))) [(momW back w).map Int.ofNat] = .ok ((gget d (mk (wcont n.toNat l.length (sts l ws) back w))).getD [] ++ [(momW back w).map Int.ofNat]) from guard_ok (by rw [sz]; simp only [List.length_singleton]; omega), bind_ok]
      rw [show pdput d (mk (wcont n.toNat l.length (sts l ws) back w)) _ = .ok (dput d (mk (wcont n.toNat l.length (sts l ws) back w)) ((gget d (mk (wcont n.toNat l.length (sts l ws) back w))).getD [] ++ [(momW back w).map Int.ofNat])) from guard_ok (by rw [sz]; omega), bind_ok]
      rfl)
  simp only [List.length_nil, Nat.zero_add, List.nil_append] at hg hdl
  have hmem : ∀ x, (dget d2 x).isSome = true ↔ ∃ c, x = mk c ∧ Cp n.toNat l.length (dirS (sts l ws) back) c := fun x => by
    rw [hg x]
    unfold grp
    constructor
    · intro q
      split at q
      · cases q
      · rename_i ne
        obtain ⟨w, hw⟩ := List.exists_mem_of_ne_nil _ ne
        obtain ⟨w1, w2⟩ := List.mem_filter.mp hw
        exact ⟨_, (of_decide_eq_true w2).symm, (hcp _).mp ⟨w, w1, rfl⟩⟩
    · rintro ⟨c, rfl, hc⟩
      obtain ⟨w, w1, w2⟩ := (hcp c).mpr hc
      rw [if_neg (List.ne_nil_of_mem (List.mem_filter.mpr ⟨w1, decide_eq_true (congrArg mk w2)⟩))]
      rfl
  -- the contents
  obtain ⟨t1, t2⟩ := lt_srt (allT_lt (dir_ok hS (down := back)) (k := n.toNat))
  have eC : (d2.map (·.1)).mergeSort (leD pyS) = (allT n.toNat l.length (dirS (sts l ws) back)).map mk :=
    srtS_uniq (List.pairwise_mergeSort leS_trans leS_total _) ((List.mergeSort_perm _ _).nodup_iff.mpr nd) t1 t2 fun x => by
      rw [(List.mergeSort_perm _ _).mem_iff, ← dget_mem, hmem, mem_mkT]
  have hT : (allT n.toNat l.length (dirS (sts l ws) back)).length = cnt (colH l ws n back) 0 := by unfold allT; rw [List.length_map, List.length_range]; rfl
  have hTl : cnt (colH l ws n back) 0 ≤ 10000 := by
    have := congrArg List.length eC
    rw [List.length_mergeSort, List.length_map, List.length_map, hT] at this
    omega
  refine ok_eq ?_
  unfold m_law_right
  refine be (show pix ((sts l ws).map mk) (0 : Int) = .ok (mk ((sts l ws).getD 0 [])) from map_at (t := 0) (by omega)) ?_
  refine be (law_blocks_val hn (by rw [mk_len, (hS.s _ s0).1]; omega)) ?_
  have hbl : ((blk n.toNat ((sts l ws).getD 0 [])).map mk).length = nB n.toNat l.length := by rw [List.length_map, blk_nB (hS.s _ s0).1]
  have hsm : ((sts l ws).map mk).length = ws.length + 1 := by rw [List.length_map, hsl]
  rw [signs_mk, hbl, hsm]
  refine be (walks_val (by omega) hnb) ?_
  refine be (a := d2) (by rw [foldR_map]; exact ed) ?_
  refine be (a := (allT n.toNat l.length (dirS (sts l ws) back)).map mk) ((guard_ok (by rw [List.length_map, sz]; omega)).trans (by rw [eC])) ?_
  rw [List.length_map, hT]
  refine be (count_val h hn) <| cNF rfl ?_
  refine bg (small62_of (by omega) (by omega)) ?_
  refine forO (fun _ => True) trivial (fun _ x _ hx => ?_) (fun _ _ => ?_)
  · have hx := mem_rangeL.mp hx
    obtain ⟨i, rfl⟩ := Int.eq_ofNat_of_zero_le hx.1
    have hi : i < cnt (colH l ws n back) 0 := by omega
    obtain ⟨c, hc⟩ : ∃ c, c = (unr (colH l ws n back) 0 i).flatten := ⟨_, rfl⟩
    have hcc : Cp n.toNat l.length (dirS (sts l ws) back) c := by rw [hc]; exact cp_at hi
    obtain ⟨hcl, hct⟩ := cp_txt hk hS hcc
    obtain ⟨ms, he, hml⟩ : ∃ ms, earlyS n.toNat l.length (sts l ws) c back = (some ms, none) ∧ ms.length = nB n.toNat l.length := by
      obtain ⟨m, m1, m2, m3⟩ := cp_rises hcc
      obtain ⟨ms, e1, e2, _⟩ := early_of_read hk hS m1 m2
      rw [← m3] at e1
      exact ⟨ms, e1, e2⟩
    obtain ⟨⟨a1, a2⟩, a3⟩ := rows_min hk hS hcl he hml
    rw [hsl] at a1 a3
    have ex : pix ((allT n.toNat l.length (dirS (sts l ws) back)).map mk) (i : Int) = .ok (mk c) := by
      rw [map_at (d := []) (by omega), hc]
      congr 2
      rw [getD_at (by omega)]
      simp only [allT, List.getElem_map, List.getElem_range]; rfl
    obtain ⟨F, hF⟩ : ∃ F, F = (wk (ws.length + 1) (nB n.toNat l.length)).filter fun w => decide (mk (wcont n.toNat l.length (sts l ws) back w) = mk c) := ⟨_, rfl⟩
    have mF : ∀ w, w ∈ F ↔ w ∈ wk (ws.length + 1) (nB n.toNat l.length) ∧ wcont n.toNat l.length (sts l ws) back w = c := fun w => by
      rw [hF, List.mem_filter, decide_eq_true_eq, mk_inj]
    have m0 : momW back ms ∈ F := (mF _).mpr ⟨a1, a2⟩
    have eg : pgget d2 (mk c) = .ok (F.map fun w => (momW back w).map Int.ofNat) := by
      have : gget d2 (mk c) = some (F.map fun w => (momW back w).map Int.ofNat) := by
        refine (show gget d2 (mk c) = dget d2 (mk c) from rfl).trans ((hg _).trans ?_)
        unfold grp
        rw [← hF, if_neg (List.ne_nil_of_mem m0)]
      unfold pgget
      rw [this]
    have Fl : F.length ≤ 10000 := by rw [hF]; exact Nat.le_trans (List.length_filter_le _ _) hwl
    refine be ex <| bg (small62_of (by omega) (by omega)) ?_
    refine be (a := ms.map Int.ofNat) ?_ ?_
    · rw [compR_map (fun x => ((ms.getD x.toNat 0 : Nat) : Int)) (by rw [rangeL_length, sz]; omega) fun x hx => by
        have hx := mem_rangeL.mp hx
        obtain ⟨b, rfl⟩ := Int.eq_ofNat_of_zero_le hx.1
        have hb : b < nB n.toNat l.length := by omega
        rw [eg, bind_ok, compR_map (fun r => ((r.getD b 0))) (by rw [List.length_map, sz]; omega) fun r hr => by
          obtain ⟨w, hw, rfl⟩ := List.mem_map.mp hr
          obtain ⟨w1, _, _⟩ := wk_rises (back := back) ((mF w).mp hw).1
          rw [map_at (f := Int.ofNat) (d := 0) (by rw [momW_len]; omega), bind_ok]
          exact congrArg (fun z => Res.ok (some z)) (ofNat_getD (by rw [momW_len]; omega)).symm, bind_ok, List.map_map]
        rw [min_of (m := ((ms.getD b 0 : Nat) : Int)) (List.mem_map.mpr ⟨momW back ms, m0, by
          show ((momW back (momW back ms)).map Int.ofNat).getD b 0 = _
          rw [momW_inv]; exact ofNat_getD (by omega)⟩) fun y hy => by
            obtain ⟨w, hw, rfl⟩ := List.mem_map.mp hy
            obtain ⟨q1, q2⟩ := (mF w).mp hw
            obtain ⟨w1, _, _⟩ := wk_rises (back := back) q1
            have := a3 w q1 q2 b hb
            show _ ≤ ((momW back w).map Int.ofNat).getD b 0
            rw [ofNat_getD (by rw [momW_len]; omega)]
            omega, bind_ok, Int.toNat_natCast]]
      rw [rangeL_map, List.map_map]
      refine congrArg Res.ok (List.ext_getElem (by simp [hml]) fun b b1 b2 => ?_)
      have hb : b < ms.length := by simpa using b2
      simp only [List.getElem_map, List.getElem_range, Function.comp]
      show ((ms.getD (Int.toNat (Int.ofNat b)) 0 : Nat) : Int) = Int.ofNat ms[b]
      rw [show Int.toNat (Int.ofNat b) = b from rfl, getD_at hb]; rfl
    have e1 : m_copy_at (hisV l ws) n (i : Int) back = .ok (mk c) := (at_val h hn hi).trans (by rw [hc])
    have e2 : m_copy_number (hisV l ws) n (mk c) back = .ok (some (i : Int)) := (copy_number_val h hn hct hcl).trans (by rw [hc, num_unr h hn hi]; rfl)
    have e3 : m_copy_moments (hisV l ws) n (mk c) back = .ok (some (ms.map Int.ofNat)) := (moments_v h hn hcl hct).trans (by rw [he]; rfl)
    have e4 : m_late_block (hisV l ws) n (mk c) back = .ok none := (late_val h hn hcl hct).trans (by rw [he]; rfl)
    refine be e1 <| cNF rfl <| be e2 <| be (by rw [eqOI, decide_eq_true rfl]) <| cF rfl <| be e3 <| be eqOLself <| cF rfl <| be eg ?_
    refine be (pin_true okI_L okLL (List.mem_map.mpr ⟨momW back ms, m0, by rw [momW_inv]⟩)) <| cF rfl <| be e4 <| cF rfl ⟨(), rfl, trivial⟩
  · refine bi (mixes_o hS (by omega) hn hnb) fun zs hz => ?_
    refine forO (fun _ => True) trivial (fun _ x _ hx => ?_) (fun _ _ => rfl)
    obtain ⟨c, rfl, hcl, hct⟩ := hz x hx
    cases hs : (dget d2 (mk c)).isSome with
    | true => exact cF rfl ⟨(), rfl, trivial⟩
    | false =>
      have no : ¬ Cp n.toNat l.length (dirS (sts l ws) back) c := fun q => by
        have := (hmem (mk c)).mpr ⟨c, rfl, q⟩
        rw [hs] at this; cases this
      have en : (earlyS n.toNat l.length (sts l ws) c back).1.isNone = true := by
        cases q : (earlyS n.toNat l.length (sts l ws) c back).1.isNone with
        | true => rfl
        | false => exact absurd ((early_iff hk hS hcl).mp q) no
      have ez : numF (colH l ws n back) 0 (blk n.toNat c) = none := by
        cases q : numF (colH l ws n back) 0 (blk n.toNat c) with
        | none => rfl
        | some i =>
          obtain ⟨i1, i2⟩ := num_some h hn hcl q
          exact absurd (by rw [← i2]; exact cp_at i1) no
      have e2 : m_copy_number (hisV l ws) n (mk c) back = .ok none := (copy_number_val h hn hct hcl).trans (by rw [ez]; rfl)
      refine cT rfl <| be (moments_v h hn hcl hct) <| cF (by rw [evI_none, en]; rfl) ?_
      exact be (late_val h hn hcl hct) <| be (law_early_val hS hn hcl) <| be okO2 <| cF rfl <| be e2 <| cF rfl ⟨(), rfl, trivial⟩
theorem hisK : HistOk [97, 97, 97] [(0, [98]), (1, [99]), (2, [100])] := ⟨by decide, by decide, fun w hw => by
  simp only [List.mem_cons, List.not_mem_nil, or_false] at hw
  rcases hw with rfl | rfl | rfl <;> (constructor <;> decide), by decide⟩
theorem all_eq {k L : Nat} {S : List (List Nat)} (hS : StsOk L S) {back : Bool} {E : List (List Nat)} (h1 : E.Pairwise (· < ·)) (h2 : (E.all fun c => decide (c ∈ (wk S.length (nB k L)).map (wcont k L S back))) = true) (h3 : (((wk S.length (nB k L)).map (wcont k L S back)).all fun c => decide (c ∈ E)) = true) : (allT k L (dirS S back)).map mk = E.map mk := by
  obtain ⟨t1, t2⟩ := lt_srt (allT_lt (dir_ok hS (down := back)) (k := k))
  obtain ⟨e1, e2⟩ := lt_srt h1
  refine srtS_uniq t1 t2 e1 e2 fun x => ?_
  rw [mem_mkT, List.mem_map]
  constructor
  · rintro ⟨c, rfl, hc⟩
    obtain ⟨w, w1, w2⟩ := wk_cp.mpr hc
    exact ⟨c, of_decide_eq_true (List.all_eq_true.mp h3 c (List.mem_map.mpr ⟨w, w1, w2⟩)), rfl⟩
  · rintro ⟨c, hc, rfl⟩
    obtain ⟨w, w1, w2⟩ := List.mem_map.mp (of_decide_eq_true (List.all_eq_true.mp h2 c hc))
    exact ⟨c, rfl, wk_cp.mp ⟨w, w1, w2⟩⟩
theorem one_t {z : Str} {l : List Nat} (h : signsL z = l) : z = mk l := by rw [← mk_signs z, h]
theorem known_o {l : List Nat} {ws : List Wr} (h : HistOk l ws) {n : Int} (hn : SzOk n) {back : Bool} {E : List (List Nat)} (e : (allT n.toNat l.length (dirS (sts l ws) back)).map mk = E.map mk) : m_copy_count (hisV l ws) n back = .ok (E.length : Int) ∧ ∀ i, i < E.length → m_copy_at (hisV l ws) n (i : Int) back = .ok (mk (E.getD i [])) := by
  have hT : (allT n.toNat l.length (dirS (sts l ws) back)).length = cnt (colH l ws n back) 0 := by unfold allT; rw [List.length_map, List.length_range]; rfl
  have hl : cnt (colH l ws n back) 0 = E.length := by
    have := congrArg List.length e
    rw [List.length_map, List.length_map, hT] at this; exact this
  refine ⟨(count_val h hn).trans (by rw [hl]), fun i hi => (at_val h hn (by omega)).trans ?_⟩
  have e2 : ((allT n.toNat l.length (dirS (sts l ws) back)).map mk)[i]? = (E.map mk)[i]? := by rw [e]
  rw [List.getElem?_map, List.getElem?_map, List.getElem?_eq_getElem (by omega), List.getElem?_eq_getElem hi] at e2
  have e3 := Option.some.inj e2
  rw [getD_at hi, ← e3]
  simp only [allT, List.getElem_map, List.getElem_range]; rfl
theorem law_ok (ns : List Int) (h : ns.length ≤ 63) : (m_law ns).Out (fun r => r = true) (fun _ => False) := by
  refine ok_out ?_
  unfold m_law
  refine bi (spring_o (by decide)) fun z2 hp => ?_
  refine bi (sip_s hp (by decide) (by decide +kernel)) fun z4 ⟨a1, a2, hp⟩ => ?_
  refine bi (cells_o hp (by omega) (by omega)) fun z5 ⟨l, e5, hl, hc, hp⟩ => ?_
  rw [e5]
  have hlen : plenS (mk l) = .ok (l.length : Int) := (plenS_mk (by rw [mk_len]; omega)).trans (by rw [signs_mk])
  refine be hlen ?_
  refine bi (writes_o hp (by omega) (by decide) (by decide)) fun z7 ⟨ws, e7, hw, hwo, hp⟩ => ?_
  rw [e7]
  have hh : HistOk l ws := ⟨hc, by omega, hwo, by omega⟩
  have fl : m_File_make (mk l) = .ok (mk l) := file_ok (by omega) hc
  refine be fl <| be (history_val hh) <| be (law_states_val hh) <| be hlen ?_
  refine bi (sip_s hp (by decide) (by decide +kernel)) fun z12 ⟨b1, b2, hp⟩ => ?_
  refine bi (sip_s hp (by decide) (by decide +kernel)) fun z13 ⟨c1, c2, hp⟩ => ?_
  obtain ⟨q, hq⟩ : ∃ q : Int, q = max (1 : Int) (((l.length : Int) + 3) / 4) := ⟨_, rfl⟩
  have q1 : 1 ≤ q := by omega
  have q2 : (l.length : Int) ≤ 4 * q := by omega
  have q3 : q ≤ 1000 := by omega
  rw [← hq]
  refine be (a := usI [q, q + z12.1, q + z13.1, 4096, (10 : Int) ^ Int.toNat (39 : Int)]) (guard_ok (show 5 < 64 by decide)) ?_
  have big : (4096 : Int) ≤ (10 : Int) ^ Int.toNat (39 : Int) ∧ (10 : Int) ^ Int.toNat (39 : Int) < 1000000000000000000000000000000000000000000000000 := by decide +kernel
  refine forO (fun _ => True) trivial (fun _ n _ hn => ?_) (fun _ _ => ?_)
  · have hn := mem_usI.mp hn
    simp only [List.mem_cons, List.not_mem_nil, or_false] at hn
    have hn1 : q ≤ n ∧ n < 1000000000000000000000000000000000000000000000000 := by rcases hn with rfl | rfl | rfl | rfl | rfl <;> omega
    have hs : SzOk n := ⟨by omega, hn1.2⟩
    have hnb : nB n.toNat l.length ≤ 4 := by
      have : (l.length + n.toNat - 1) / n.toNat < 5 := Nat.div_lt_of_lt_mul (by omega)
      show (l.length + n.toNat - 1) / n.toNat ≤ 4
      omega
    exact be (right_true hh (by omega) hs hnb) <| cT rfl <| be (right_true hh (by omega) hs hnb) <| cT rfl ⟨(), rfl, trivial⟩
  · have s1 : SzOk (1 : Int) := ⟨by decide, by decide⟩
    have tb : ∀ (z : Str) (l : List Nat), signsL z = l → z = mk l := fun z l h => one_t h
    rw [tb "aaa" [97, 97, 97] (by decide +kernel), tb "b" [98] (by decide +kernel), tb "c" [99] (by decide +kernel), tb "d" [100] (by decide +kernel), tb "aca" [97, 99, 97] (by decide +kernel), tb "bca" [98, 99, 97] (by decide +kernel), tb "baa" [98, 97, 97] (by decide +kernel)]
    obtain ⟨k1, k2⟩ := known_o hisK s1 (back := false) (E := [[97, 97, 97], [97, 97, 100], [97, 99, 97], [97, 99, 100], [98, 97, 97], [98, 97, 100], [98, 99, 97], [98, 99, 100]]) (all_eq (k := 1) (L := 3) (sts_ok hisK) (by decide +kernel) (by decide +kernel) (by decide +kernel))
    obtain ⟨_, k3⟩ := known_o hisK s1 (back := true) (E := [[97, 97, 97], [98, 97, 97], [98, 99, 97], [98, 99, 100]]) (all_eq (k := 1) (L := 3) (sts_ok hisK) (by decide +kernel) (by decide +kernel) (by decide +kernel))
    have k4 : m_copy_moments (hisV [97, 97, 97] [(0, [98]), (1, [99]), (2, [100])]) (1 : Int) (mk [98, 97, 97]) true = .ok (some [1, 0, 0]) := (moments_v hisK s1 (by decide) (by decide)).trans (by
      rw [show earlyS (1 : Int).toNat [97, 97, 97].length (sts [97, 97, 97] [(0, [98]), (1, [99]), (2, [100])]) [98, 97, 97] true = (some [1, 0, 0], none) by decide +kernel]; rfl)
    have k5 : m_late_block (hisV [97, 97, 97] [(0, [98]), (1, [99]), (2, [100])]) (1 : Int) (mk [97, 99, 97]) true = .ok (some (0, 2)) := (late_val hisK s1 (by decide) (by decide)).trans (by
      rw [show earlyS (1 : Int).toNat [97, 97, 97].length (sts [97, 97, 97] [(0, [98]), (1, [99]), (2, [100])]) [97, 99, 97] true = (none, some (0, 2)) by decide +kernel]; rfl)
    refine be (file_ok (by decide) hisK.c) <| be (a := hisV [97, 97, 97] [(0, [98]), (1, [99]), (2, [100])]) (history_val hisK) <| be k1 <| cNF rfl ?_
    refine be (k2 2 (by decide)) <| cNF rfl <| be (k3 2 (by decide)) <| cNF rfl <| be k4 <| be eqOLself <| cF rfl <| be k5 <| be okO2 <| cF rfl ?_
    exact be fl <| be (history_val hh) <| be (a := true) (by rw [his_self hh]; rfl) rfl
end Kh

set_option Elab.async false
set_option linter.all false
set_option maxRecDepth 100000
set_option maxHeartbeats 4000000
namespace Kh
open PySem PySem.Spec L2
open PySem.W (Frag)
section
variable {w : World} {K : Frag} {mg : Str → Option Value} {base : Heap}
theorem ok_law (R : Prg K mg) : FnOk PR w K mg base CX0 7 R.f_law R.d_law P_law (toSp K spLaw) := by
  refine fn_law false R.F_law sc_law (fun h => nomatch h) (fun ds M P E ⟨a, _, q, _⟩ => by rw [q]; rfl) fun cdv A outer s H hr ds M Pd PE h => ?_
  obtain ⟨a_script, hlen, rfl, rfl, hp⟩ := h
  have hu := hr.units
  have h : (m_law a_script).Out (fun r => Pd (.bl r) []) (fun _ => False) := out_mono (law_ok a_script hlen) (fun r e => by rw [show r = true from e]; exact hp) (fun _ h => h)
  refine WS.ends ?_
  refine ws_set <| ex_callF (ok_law_spring R) (hr.mono (by decide)) R.m_law_spring R.F_law_spring R.b_law_spring <| ea_cons <| ex_var ⟨rfl, rfl⟩ <| ea_cons <| ex_int <| ea_nil <| ⟨a_script, (0 : Int), rfl, outG (ob h) (fun z2 h => fun q3 => (UpP.mk (?_))) (fun _ h => dX [] h)⟩
  refine ws_set <| ex_callA (ok_law_cells R) (hr.mono (by decide)) R.m_law_cells R.F_law_cells R.b_law_cells <| ea_cons <| ex_var ⟨rfl, rfl⟩ <| ea_cons <| ex_callA (ok_law_sip R) (hr.mono (by decide)) R.m_law_sip R.F_law_sip R.b_law_sip <| ea_cons <| ex_var ⟨rfl, rfl⟩ <| ea_cons <| ex_int <| ea_nil <| apC [] ⟨_, z2, (13 : Int), rfl, rfl, outC1 (ob h) (fun z4 h => ea_nil <| apC [] ⟨_, z4.2, z4.1, rfl, rfl, outC1 (ob h) (fun z5 h => ?_) (fun _ h => h)⟩) (fun _ h => h)⟩
  refine ws_set <| ex_callA (ok_law_writes R) (hr.mono (by decide)) R.m_law_writes R.F_law_writes R.b_law_writes <| ea_cons <| ex_var ⟨rfl, rfl⟩ <| ea_cons <| ex_callB R.n_len PyProof.Rows.Boot.«len» <| ea_cons <| ex_var ⟨rfl, rfl⟩ <| ea_nil <| r_lenS (ob h) fun z6 h => ea_cons <| ex_int <| ea_nil <| apC [] ⟨_, z5.2, z6, (4 : Int), rfl, rfl, outC1 (ob h) (fun z7 h => ?_) (fun _ h => h)⟩
  refine ws_par <| ea_cons <| ex_make R.K_History (ok_History_init R) (hr.mono (by decide)) R.mc_History R.b_History_init .nil (fun _ => .nil) <| ea_cons <| ex_make R.K_File (ok_File_init R) (hr.mono (by decide)) R.mc_File R.b_File_init .nil (fun _ => .nil) <| ea_cons <| ex_var ⟨rfl, rfl⟩ <| ea_nil <| fun q dx _ _ _ => mk_File (ob h) (fun z8 h => ea_cons <| ex_var ⟨rfl, rfl⟩ <| ea_nil <| fun q dx _ _ _ => mk_History (ob h) (fun z9 h => ea_cons <| ex_callF (ok_law_states R) (hr.mono (by decide)) R.m_law_states R.F_law_states R.b_law_states <| ea_cons <| ex_var ⟨rfl, rfl⟩ <| ea_cons <| ex_var ⟨rfl, rfl⟩ <| ea_nil <| ⟨z5.1, z7.1, rfl, outU (ob h) (fun z10 h => ea_nil ⟨_, _, rfl, ?_⟩) (fun _ h => dX [_] h)⟩) (fun _ h => dX [_, _] h)) (fun _ h => dX [_, _] h)
  refine ws_set <| ex_callB R.n_max PyProof.Rows.Boot.«max» <| ea_cons <| ex_int <| ea_cons <| ex_bin <| ex_bin <| ex_callB R.n_len PyProof.Rows.Boot.«len» <| ea_cons <| ex_var ⟨rfl, rfl⟩ <| ea_nil <| r_lenS (ob h) fun z11 h => ex_int <| o_add <| ex_int <| o_div ⟨by decide, by decide⟩ <| ea_nil <| c_maxT <| ?_
  refine ws_forT <| ei_list <| ex_srtSetI R.n_sorted R.n_set <| ex_lst <| ea_cons <| ex_var ⟨rfl, rfl⟩ <| ea_cons <| ex_bin <| ex_var ⟨rfl, rfl⟩ <| ex_callA (ok_law_sip R) (hr.mono (by decide)) R.m_law_sip R.F_law_sip R.b_law_sip <| ea_cons <| ex_var ⟨rfl, rfl⟩ <| ea_cons <| ex_int <| ea_nil <| apC [] ⟨_, z7.2, (5 : Int), rfl, rfl, outC1 (ob h) (fun z12 h => o_add <| ea_cons <| ex_bin <| ex_var ⟨rfl, rfl⟩ <| ex_callA (ok_law_sip R) (hr.mono (by decide)) R.m_law_sip R.F_law_sip R.b_law_sip <| ea_cons <| ex_var ⟨rfl, rfl⟩ <| ea_cons <| ex_int <| ea_nil <| apC [] ⟨_, z12.2, (20 : Int), rfl, rfl, outC1 (ob h) (fun z13 h => o_add <| ea_cons <| ex_int <| ea_cons <| ex_bin <| ex_int <| ex_int <| o_powW (by decide +kernel) <| ea_nil ⟨ln, ⟨([(max (1 : Int) ((z11 + (3 : Int)) / (4 : Int))), ((max (1 : Int) ((z11 + (3 : Int)) / (4 : Int))) + z12.1), ((max (1 : Int) ((z11 + (3 : Int)) / (4 : Int))) + z13.1), (4096 : Int), ((10 : Int) ^ Int.toNat (39 : Int))] : List Int), (.inl rfl), _, (ob h), fun z14 h => ⟨_, rfl, forT Dat.int (xs := z14) (fun (s15 : Unit) τ M' => ∃ d7 d8, [some (.scr a_script), some (.raw (.ref q3)), some (.str z5.1), some ((lstD (pairD Dat.int Dat.str)) z7.1), some ((historyD R) z9), some ((lstD Dat.str) z10), some (.int (max (1 : Int) ((z11 + (3 : Int)) / (4 : Int)))), d7, d8] = τ ∧ (q3, .lst (z13.2.map Dat.int)) :: [] = M') (ob h) ⟨_, _, rfl, rfl⟩ (fun _ _ _ _ => trivial) ?g24 ?g25⟩⟩⟩) (fun _ h => h)⟩) (fun _ h => h)⟩
  case g24 =>
    rintro x16 s15 _ _ N ⟨d7, d8, rfl, rfl⟩ h hrt17
    refine gx_name  <| ?_
    refine ws_if <| et_w <| ew_or <| et_not <| et_val <| ex_callF (ok_law_right R) (hr.mono (by decide)) R.m_law_right R.F_law_right R.b_law_right <| ea_cons <| ex_var ⟨rfl, rfl⟩ <| ea_cons <| ex_var ⟨rfl, rfl⟩ <| ea_cons <| ex_var ⟨rfl, rfl⟩ <| ea_cons <| ex_bl <| ea_nil <| ⟨z9, z10, x16, false, rfl, outU (ob h) (fun z19 h => ⟨_, rfl, cifN h (fun h => ew_or1 <| et_not <| et_val <| ex_callF (ok_law_right R) (hr.mono (by decide)) R.m_law_right R.F_law_right R.b_law_right <| ea_cons <| ex_var ⟨rfl, rfl⟩ <| ea_cons <| ex_var ⟨rfl, rfl⟩ <| ea_cons <| ex_var ⟨rfl, rfl⟩ <| ea_cons <| ex_bl <| ea_nil <| ⟨z9, z10, x16, true, rfl, outU (ob h) (fun z21 h => ⟨_, rfl, cifN h (fun h => ?g23) (fun h => ?g22)⟩) (fun _ h => dX [_] h)⟩) (fun h => ⟨fun _ => ?g20, fun z => nomatch z⟩)⟩) (fun _ h => dX [_] h)⟩
    case g20 =>
      exact ws_ret <| ex_bl <| (dN [_] (hrt17 _ h))
    case g22 =>
      exact ws_ret <| ex_bl <| (dN [_] (hrt17 _ h))
    case g23 =>
      refine ws_nil ?_
      exact ws_nil ⟨(), ⟨_, _, rfl, rfl⟩, h⟩
  case g25 =>
    rintro s15 _ _ ⟨d7, d8, rfl, rfl⟩ h
    replace h := finO h
    refine ws_set <| ex_make R.K_History (ok_History_init R) (hr.mono (by decide)) R.mc_History R.b_History_init .nil (fun _ => .nil) <| ea_cons <| ex_make R.K_File (ok_File_init R) (hr.mono (by decide)) R.mc_File R.b_File_init .nil (fun _ => .nil) <| ea_cons <| ex_str <| ea_nil <| fun q dx _ _ _ => mk_File (ob h) (fun z26 h => ea_cons <| ex_lst <| ea_cons <| ex_tup <| ea_cons <| ex_int <| ea_cons <| ex_str <| ea_nil ⟨ln, ea_cons <| ex_tup <| ea_cons <| ex_int <| ea_cons <| ex_str <| ea_nil ⟨ln, ea_cons <| ex_tup <| ea_cons <| ex_int <| ea_cons <| ex_str <| ea_nil ⟨ln, ea_nil ⟨ln, ea_nil <| fun q dx _ _ _ => mk_History (ob h) (fun z27 h => ?_) (fun _ h => dX [_, _] h)⟩⟩⟩⟩) (fun _ h => dX [_, _] h)
    refine ws_if <| et_w <| ew_or <| et_cmp <| ex_callK (ok_copy_count R) (hr.mono (by decide)) R.m_copy_count R.F_copy_count.kp R.kb_copy_count_2_ <| ea_cons <| ex_var ⟨rfl, rfl⟩ <| ea_cons <| ex_int <| ea_nil ⟨rfl, ek_nil ⟨rfl, ⟨z27, (1 : Int), false, rfl, outU (ob h) (fun z28 h => ex_int <| o_neI <| ⟨_, rfl, cif h (fun h => ⟨fun _ => ?g29, fun z => nomatch z⟩) (fun h => ew_or <| et_cmp <| ex_callK (ok_copy_at R) (hr.mono (by decide)) R.m_copy_at R.F_copy_at.kp R.kb_copy_at_3_ <| ea_cons <| ex_var ⟨rfl, rfl⟩ <| ea_cons <| ex_int <| ea_cons <| ex_int <| ea_nil ⟨rfl, ek_nil ⟨rfl, ⟨z27, (1 : Int), (2 : Int), false, rfl, outU (ob h) (fun z30 h => ex_str <| o_neT <| ⟨_, rfl, cif h (fun h => ⟨fun _ => ?g31, fun z => nomatch z⟩) (fun h => ew_or1 <| et_cmp <| ex_callK (ok_copy_at R) (hr.mono (by decide)) R.m_copy_at R.F_copy_at.kp R.kb_copy_at_3_down <| ea_cons <| ex_var ⟨rfl, rfl⟩ <| ea_cons <| ex_int <| ea_cons <| ex_int <| ea_nil ⟨rfl, ek_cons <| ex_bl <| ek_nil ⟨rfl, ⟨z27, (1 : Int), (2 : Int), true, rfl, outU (ob h) (fun z32 h => ex_str <| o_neT <| ⟨_, rfl, cif h (fun h => ?g33) (fun h => ?g44)⟩) (fun _ h => dX [_] h)⟩⟩⟩)⟩) (fun _ h => dX [_] h)⟩⟩⟩)⟩) (fun _ h => dX [_] h)⟩⟩⟩
    case g29 =>
      exact ws_ret <| ex_bl <| (dN [_] h)
    case g31 =>
      exact ws_ret <| ex_bl <| (dN [_] h)
    case g33 =>
      exact ws_ret <| ex_bl <| (dN [_] h)
    case g44 =>
      refine ws_nil ?_
      refine ws_if <| et_w <| ew_or <| et_cmp <| ex_callK (ok_copy_moments R) (hr.mono (by decide)) R.m_copy_moments R.F_copy_moments.kp R.kb_copy_moments_3_down <| ea_cons <| ex_var ⟨rfl, rfl⟩ <| ea_cons <| ex_int <| ea_cons <| ex_str <| ea_nil ⟨rfl, ek_cons <| ex_bl <| ek_nil ⟨rfl, ⟨z27, (1 : Int), ("baa" : Str), true, rfl, outU (ob h) (fun z34 h => ex_lst <| ea_cons <| ex_int <| ea_cons <| ex_int <| ea_cons <| ex_int <| ea_nil ⟨ln, r_neD (pyO (pyL pyI) (fun _ => ⟨rfl, rfl⟩)) z34 (some ([(1 : Int), (0 : Int), (0 : Int)] : List Int)) hu (ob h) fun z35 h => ⟨_, rfl, cif h (fun h => ⟨fun _ => ?g36, fun z => nomatch z⟩) (fun h => ew_or1 <| et_cmp <| ex_callK (ok_late_block R) (hr.mono (by decide)) R.m_late_block R.F_late_block.kp R.kb_late_block_3_down <| ea_cons <| ex_var ⟨rfl, rfl⟩ <| ea_cons <| ex_int <| ea_cons <| ex_str <| ea_nil ⟨rfl, ek_cons <| ex_bl <| ek_nil ⟨rfl, ⟨z27, (1 : Int), ("aca" : Str), true, rfl, outU (ob h) (fun z37 h => ex_tup <| ea_cons <| ex_int <| ea_cons <| ex_int <| ea_nil ⟨ln, r_neD (pyO (py2 pyI pyI) (fun _ => ⟨rfl, rfl⟩)) z37 (some ((0 : Int), (2 : Int))) hu (ob h) fun z38 h => ⟨_, rfl, cif h (fun h => ?g39) (fun h => ?g43)⟩⟩) (fun _ h => dX [_] h)⟩⟩⟩)⟩⟩) (fun _ h => dX [_] h)⟩⟩⟩
      case g36 =>
        exact ws_ret <| ex_bl <| (dN [_] h)
      case g39 =>
        exact ws_ret <| ex_bl <| (dN [_] h)
      case g43 =>
        refine ws_nil ?_
        exact ws_ret <| ex_cmp <| ex_var ⟨rfl, rfl⟩ <| ex_make R.K_History (ok_History_init R) (hr.mono (by decide)) R.mc_History R.b_History_init .nil (fun _ => .nil) <| ea_cons <| ex_make R.K_File (ok_File_init R) (hr.mono (by decide)) R.mc_File R.b_File_init .nil (fun _ => .nil) <| ea_cons <| ex_var ⟨rfl, rfl⟩ <| ea_nil <| fun q dx _ _ _ => mk_File (ob h) (fun z40 h => ea_cons <| ex_var ⟨rfl, rfl⟩ <| ea_nil <| fun q dx _ _ _ => mk_History (ob h) (fun z41 h => r_eqOwn (ok_History_eq R) (hr.mono (by decide)) R.M_History_eq R.b_History_eq (fun _ => .inl ⟨_, _, rfl, by decide⟩) (fun _ => .obj R.L_History) nf_self (fun _ _ h => ⟨z9, z41, rfl, out_mono h (fun _ h => h) (fun _ h => h.elim)⟩) (ob h) fun z42 h => (dN [_] h)) (fun _ h => dX [_, _] h)) (fun _ h => dX [_, _] h)
end
end Kh

set_option Elab.async false
set_option linter.all false
set_option maxRecDepth 100000
set_option pp.maxSteps 60
set_option maxHeartbeats 2000000
namespace Kh
open PySem PySem.Spec L2
open PySem.W (Frag ksFn)
theorem all_mk {w : World} {K : Frag} {h : Heap} {mg : Str → Option Value} {fa : Addr} (X : K.In h) (G : h.Ns mainGlobals mg) (hfa : mg "law" = some (.ref fa))
    {tg_SIGNS : Tok} {C_File : Addr} {C_History : Addr} {f_is_whole : Addr} {od_is_whole : Option Addr} {an_is_whole : Option Addr} {sl_is_whole : Array (Option Value)} {oc_is_whole : Value} {kV_is_whole : Value} {dc_is_whole : Value} {pm_is_whole : Value} {cd_is_whole : Value} {ct_is_whole : Value} {f_check_least : Addr} {od_check_least : Option Addr} {an_check_least : Option Addr} {sl_check_least : Array (Option Value)} {oc_check_least : Value} {kV_check_least : Value} {dc_check_least : Value} {pm_check_least : Value} {cd_check_least : Value} {ct_check_least : Value} {f_check_within : Addr} {od_check_within : Option Addr} {an_check_within : Option Addr} {sl_check_within : Array (Option Value)} {oc_check_within : Value} {kV_check_within : Value} {dc_check_within : Value} {pm_check_within : Value} {cd_check_within : Value} {ct_check_within : Value} {f_are_cells : Addr} {od_are_cells : Option Addr} {an_are_cells : Option Addr} {sl_are_cells : Array (Option Value)} {oc_are_cells : Value} {kV_are_cells : Value} {dc_are_cells : Value} {pm_are_cells : Value} {cd_are_cells : Value} {ct_are_cells : Value} {f_is_content : Addr} {od_is_content : Option Addr} {an_is_content : Option Addr} {sl_is_content : Array (Option Value)} {oc_is_content : Value} {kV_is_content : Value} {dc_is_content : Value} {pm_is_content : Value} {cd_is_content : Value} {ct_is_content : Value} {f_check_file : Addr} {od_check_file : Option Addr} {an_check_file : Option Addr} {sl_check_file : Array (Option Value)} {oc_check_file : Value} {kV_check_file : Value} {dc_check_file : Value} {pm_check_file : Value} {cd_check_file : Value} {ct_check_file : Value} {f_blocks_of : Addr} {od_blocks_of : Option Addr} {an_blocks_of : Option Addr} {sl_blocks_of : Array (Option Value)} {oc_blocks_of : Value} {kV_blocks_of : Value} {dc_blocks_of : Value} {pm_blocks_of : Value} {cd_blocks_of : Value} {ct_blocks_of : Value} {f_is_write : Addr} {od_is_write : Option Addr} {an_is_write : Option Addr} {sl_is_write : Array (Option Value)} {oc_is_write : Value} {kV_is_write : Value} {dc_is_write : Value} {pm_is_write : Value} {cd_is_write : Value} {ct_is_write : Value} {f_check_write : Addr} {od_check_write : Option Addr} {an_check_write : Option Addr} {sl_check_write : Array (Option Value)} {oc_check_write : Value} {kV_check_write : Value} {dc_check_write : Value} {pm_check_write : Value} {cd_check_write : Value} {ct_check_write : Value} {f_written : Addr} {od_written : Option Addr} {an_written : Option Addr} {sl_written : Array (Option Value)} {oc_written : Value} {kV_written : Value} {dc_written : Value} {pm_written : Value} {cd_written : Value} {ct_written : Value} {f_check_content : Addr} {od_check_content : Option Addr} {an_check_content : Option Addr} {sl_check_content : Array (Option Value)} {oc_check_content : Value} {kV_check_content : Value} {dc_check_content : Value} {pm_check_content : Value} {cd_check_content : Value} {ct_check_content : Value} {f_check_history : Addr} {od_check_history : Option Addr} {an_check_history : Option Addr} {sl_check_history : Array (Option Value)} {oc_check_history : Value} {kV_check_history : Value} {dc_check_history : Value} {pm_check_history : Value} {cd_check_history : Value} {ct_check_history : Value} {f_check_asked : Addr} {od_check_asked : Option Addr} {an_check_asked : Option Addr} {sl_check_asked : Array (Option Value)} {oc_check_asked : Value} {kV_check_asked : Value} {dc_check_asked : Value} {pm_check_asked : Value} {cd_check_asked : Value} {ct_check_asked : Value} {f_columns_of : Addr} {od_columns_of : Option Addr} {an_columns_of : Option Addr} {sl_columns_of : Array (Option Value)} {oc_columns_of : Value} {kV_columns_of : Value} {dc_columns_of : Value} {pm_columns_of : Value} {cd_columns_of : Value} {ct_columns_of : Value} {f_columns_along : Addr} {od_columns_along : Option Addr} {an_columns_along : Option Addr} {sl_columns_along : Array (Option Value)} {oc_columns_along : Value} {kV_columns_along : Value} {dc_columns_along : Value} {pm_columns_along : Value} {cd_columns_along : Value} {ct_columns_along : Value} {f_earliest : Addr} {od_earliest : Option Addr} {an_earliest : Option Addr} {sl_earliest : Array (Option Value)} {oc_earliest : Value} {kV_earliest : Value} {dc_earliest : Value} {pm_earliest : Value} {cd_earliest : Value} {ct_earliest : Value} {f_copy_moments : Addr} {od_copy_moments : Option Addr} {an_copy_moments : Option Addr} {sl_copy_moments : Array (Option Value)} {oc_copy_moments : Value} {dc_copy_moments : Value} {pm_copy_moments : Value} {cd_copy_moments : Value} {ct_copy_moments : Value} {KD_copy_moments : Addr} {f_late_block : Addr} {od_late_block : Option Addr} {an_late_block : Option Addr} {sl_late_block : Array (Option Value)} {oc_late_block : Value} {dc_late_block : Value} {pm_late_block : Value} {cd_late_block : Value} {ct_late_block : Value} {KD_late_block : Addr} {f_readings : Addr} {od_readings : Option Addr} {an_readings : Option Addr} {sl_readings : Array (Option Value)} {oc_readings : Value} {kV_readings : Value} {dc_readings : Value} {pm_readings : Value} {cd_readings : Value} {ct_readings : Value} {f_counts_of : Addr} {od_counts_of : Option Addr} {an_counts_of : Option Addr} {sl_counts_of : Array (Option Value)} {oc_counts_of : Value} {kV_counts_of : Value} {dc_counts_of : Value} {pm_counts_of : Value} {cd_counts_of : Value} {ct_counts_of : Value} {f_content_of : Addr} {od_content_of : Option Addr} {an_content_of : Option Addr} {sl_content_of : Array (Option Value)} {oc_content_of : Value} {kV_content_of : Value} {dc_content_of : Value} {pm_content_of : Value} {cd_content_of : Value} {ct_content_of : Value} {f_number_of : Addr} {od_number_of : Option Addr} {an_number_of : Option Addr} {sl_number_of : Array (Option Value)} {oc_number_of : Value} {kV_number_of : Value} {dc_number_of : Value} {pm_number_of : Value} {cd_number_of : Value} {ct_number_of : Value} {f_copy_count : Addr} {od_copy_count : Option Addr} {an_copy_count : Option Addr} {sl_copy_count : Array (Option Value)} {oc_copy_count : Value} {dc_copy_count : Value} {pm_copy_count : Value} {cd_copy_count : Value} {ct_copy_count : Value} {KD_copy_count : Addr} {f_copy_at : Addr} {od_copy_at : Option Addr} {an_copy_at : Option Addr} {sl_copy_at : Array (Option Value)} {oc_copy_at : Value} {dc_copy_at : Value} {pm_copy_at : Value} {cd_copy_at : Value} {ct_copy_at : Value} {KD_copy_at : Addr} {f_copy_number : Addr} {od_copy_number : Option Addr} {an_copy_number : Option Addr} {sl_copy_number : Array (Option Value)} {oc_copy_number : Value} {dc_copy_number : Value} {pm_copy_number : Value} {cd_copy_number : Value} {ct_copy_number : Value} {KD_copy_number : Addr} {f_law_spring : Addr} {od_law_spring : Option Addr} {an_law_spring : Option Addr} {sl_law_spring : Array (Option Value)} {oc_law_spring : Value} {kV_law_spring : Value} {dc_law_spring : Value} {pm_law_spring : Value} {cd_law_spring : Value} {ct_law_spring : Value} {f_law_sip : Addr} {od_law_sip : Option Addr} {an_law_sip : Option Addr} {sl_law_sip : Array (Option Value)} {oc_law_sip : Value} {kV_law_sip : Value} {dc_law_sip : Value} {pm_law_sip : Value} {cd_law_sip : Value} {ct_law_sip : Value} {f_law_cells : Addr} {od_law_cells : Option Addr} {an_law_cells : Option Addr} {sl_law_cells : Array (Option Value)} {oc_law_cells : Value} {kV_law_cells : Value} {dc_law_cells : Value} {pm_law_cells : Value} {cd_law_cells : Value} {ct_law_cells : Value} {f_law_text : Addr} {od_law_text : Option Addr} {an_law_text : Option Addr} {sl_law_text : Array (Option Value)} {oc_law_text : Value} {kV_law_text : Value} {dc_law_text : Value} {pm_law_text : Value} {cd_law_text : Value} {ct_law_text : Value} {f_law_writes : Addr} {od_law_writes : Option Addr} {an_law_writes : Option Addr} {sl_law_writes : Array (Option Value)} {oc_law_writes : Value} {kV_law_writes : Value} {dc_law_writes : Value} {pm_law_writes : Value} {cd_law_writes : Value} {ct_law_writes : Value} {f_law_states : Addr} {od_law_states : Option Addr} {an_law_states : Option Addr} {sl_law_states : Array (Option Value)} {oc_law_states : Value} {kV_law_states : Value} {dc_law_states : Value} {pm_law_states : Value} {cd_law_states : Value} {ct_law_states : Value} {f_law_blocks : Addr} {od_law_blocks : Option Addr} {an_law_blocks : Option Addr} {sl_law_blocks : Array (Option Value)} {oc_law_blocks : Value} {kV_law_blocks : Value} {dc_law_blocks : Value} {pm_law_blocks : Value} {cd_law_blocks : Value} {ct_law_blocks : Value} {f_law_early : Addr} {od_law_early : Option Addr} {an_law_early : Option Addr} {sl_law_early : Array (Option Value)} {oc_law_early : Value} {kV_law_early : Value} {dc_law_early : Value} {pm_law_early : Value} {cd_law_early : Value} {ct_law_early : Value} {f_law_walks : Addr} {od_law_walks : Option Addr} {an_law_walks : Option Addr} {sl_law_walks : Array (Option Value)} {oc_law_walks : Value} {kV_law_walks : Value} {dc_law_walks : Value} {pm_law_walks : Value} {cd_law_walks : Value} {ct_law_walks : Value} {f_law_read : Addr} {od_law_read : Option Addr} {an_law_read : Option Addr} {sl_law_read : Array (Option Value)} {oc_law_read : Value} {kV_law_read : Value} {dc_law_read : Value} {pm_law_read : Value} {cd_law_read : Value} {ct_law_read : Value} {f_law_mixes : Addr} {od_law_mixes : Option Addr} {an_law_mixes : Option Addr} {sl_law_mixes : Array (Option Value)} {oc_law_mixes : Value} {kV_law_mixes : Value} {dc_law_mixes : Value} {pm_law_mixes : Value} {cd_law_mixes : Value} {ct_law_mixes : Value} {f_law_right : Addr} {od_law_right : Option Addr} {an_law_right : Option Addr} {sl_law_right : Array (Option Value)} {oc_law_right : Value} {kV_law_right : Value} {dc_law_right : Value} {pm_law_right : Value} {cd_law_right : Value} {ct_law_right : Value} {f_law : Addr} {od_law : Option Addr} {an_law : Option Addr} {sl_law : Array (Option Value)} {oc_law : Value} {kV_law : Value} {dc_law : Value} {pm_law : Value} {cd_law : Value} {ct_law : Value} {f_File_init : Addr} {od_File_init : Option Addr} {an_File_init : Option Addr} {sl_File_init : Array (Option Value)} {oc_File_init : Value} {kV_File_init : Value} {dc_File_init : Value} {pm_File_init : Value} {cd_File_init : Value} {ct_File_init : Value} {T_File_init : Addr} {ocT_File_init : Value} {odT_File_init : Option Addr} {nT_File_init : Nat} {slT_File_init : Array (Option Value)} {tk0_File_init : Tok} {f_File_content : Addr} {od_File_content : Option Addr} {an_File_content : Option Addr} {sl_File_content : Array (Option Value)} {oc_File_content : Value} {kV_File_content : Value} {dc_File_content : Value} {pm_File_content : Value} {cd_File_content : Value} {ct_File_content : Value} {pr_File_content : Addr} {rs_File_content : List Value} {f_File_len : Addr} {od_File_len : Option Addr} {an_File_len : Option Addr} {sl_File_len : Array (Option Value)} {oc_File_len : Value} {kV_File_len : Value} {dc_File_len : Value} {pm_File_len : Value} {cd_File_len : Value} {ct_File_len : Value} {f_File_eq : Addr} {od_File_eq : Option Addr} {an_File_eq : Option Addr} {sl_File_eq : Array (Option Value)} {oc_File_eq : Value} {kV_File_eq : Value} {dc_File_eq : Value} {pm_File_eq : Value} {cd_File_eq : Value} {ct_File_eq : Value} {f_History_init : Addr} {od_History_init : Option Addr} {an_History_init : Option Addr} {sl_History_init : Array (Option Value)} {oc_History_init : Value} {kV_History_init : Value} {dc_History_init : Value} {pm_History_init : Value} {cd_History_init : Value} {ct_History_init : Value} {T_History_init : Addr} {ocT_History_init : Value} {odT_History_init : Option Addr} {nT_History_init : Nat} {slT_History_init : Array (Option Value)} {f_History_file : Addr} {od_History_file : Option Addr} {an_History_file : Option Addr} {sl_History_file : Array (Option Value)} {oc_History_file : Value} {kV_History_file : Value} {dc_History_file : Value} {pm_History_file : Value} {cd_History_file : Value} {ct_History_file : Value} {pr_History_file : Addr} {rs_History_file : List Value} {f_History_len : Addr} {od_History_len : Option Addr} {an_History_len : Option Addr} {sl_History_len : Array (Option Value)} {oc_History_len : Value} {kV_History_len : Value} {dc_History_len : Value} {pm_History_len : Value} {cd_History_len : Value} {ct_History_len : Value} {f_History_eq : Addr} {od_History_eq : Option Addr} {an_History_eq : Option Addr} {sl_History_eq : Array (Option Value)} {oc_History_eq : Value} {kV_History_eq : Value} {dc_History_eq : Value} {pm_History_eq : Value} {cd_History_eq : Value} {ct_History_eq : Value} {f_History_states : Addr} {od_History_states : Option Addr} {an_History_states : Option Addr} {sl_History_states : Array (Option Value)} {oc_History_states : Value} {kV_History_states : Value} {dc_History_states : Value} {pm_History_states : Value} {cd_History_states : Value} {ct_History_states : Value} {C_InvalidFile : Addr} {C_HoleError : Addr} {nm_InvalidFile : Str} {q_InvalidFile : Str} {NN_InvalidFile : Addr} {I_InvalidFile : Addr} {cda_InvalidFile : Addr} {cc_InvalidFile : Addr} {bs_InvalidFile : List Value} {sn_InvalidFile : List Str} {sub_InvalidFile : List Value} {ab_InvalidFile : Bool} {col_InvalidFile : Option Bool} {dd_InvalidFile : Option Addr} {m0_InvalidFile : Option Value} {m1_InvalidFile : Option Value} {m2_InvalidFile : Option Value} {m3_InvalidFile : Option Value} {m5_InvalidFile : Option Value} {od_InvalidFile : Option Addr} {an_InvalidFile : Option Addr} {cdd_InvalidFile : Option Addr} {cld_InvalidFile : Option Addr} {sl_InvalidFile : Array (Option Value)} {ccs_InvalidFile : Array (Option Value)} {csl_InvalidFile : Array (Option Value)} {oc_InvalidFile : Value} {ocT_InvalidFile : Value} {kV_InvalidFile : Value} {dc_InvalidFile : Value} {pm_InvalidFile : Value} {ct_InvalidFile : Value} {ccl_InvalidFile : Value} {cl_InvalidFile : Value} {T_InvalidFile : Addr} {odT_InvalidFile : Option Addr} {nT_InvalidFile : Nat} {slT_InvalidFile : Array (Option Value)} {vs_InvalidFile : Array Value} {file_InvalidFile : Str} {tf_InvalidFile : Tok} {C_InvalidNumber : Addr} {nm_InvalidNumber : Str} {q_InvalidNumber : Str} {NN_InvalidNumber : Addr} {I_InvalidNumber : Addr} {cda_InvalidNumber : Addr} {cc_InvalidNumber : Addr} {bs_InvalidNumber : List Value} {sn_InvalidNumber : List Str} {sub_InvalidNumber : List Value} {ab_InvalidNumber : Bool} {col_InvalidNumber : Option Bool} {dd_InvalidNumber : Option Addr} {m0_InvalidNumber : Option Value} {m1_InvalidNumber : Option Value} {m2_InvalidNumber : Option Value} {m3_InvalidNumber : Option Value} {m5_InvalidNumber : Option Value} {od_InvalidNumber : Option Addr} {an_InvalidNumber : Option Addr} {cdd_InvalidNumber : Option Addr} {cld_InvalidNumber : Option Addr} {sl_InvalidNumber : Array (Option Value)} {ccs_InvalidNumber : Array (Option Value)} {csl_InvalidNumber : Array (Option Value)} {oc_InvalidNumber : Value} {ocT_InvalidNumber : Value} {kV_InvalidNumber : Value} {dc_InvalidNumber : Value} {pm_InvalidNumber : Value} {ct_InvalidNumber : Value} {ccl_InvalidNumber : Value} {cl_InvalidNumber : Value} {T_InvalidNumber : Addr} {odT_InvalidNumber : Option Addr} {nT_InvalidNumber : Nat} {slT_InvalidNumber : Array (Option Value)} {vs_InvalidNumber : Array Value} {file_InvalidNumber : Str} {tf_InvalidNumber : Tok} {C_InvalidList : Addr} {C_InvalidWrite : Addr} {nm_InvalidWrite : Str} {q_InvalidWrite : Str} {NN_InvalidWrite : Addr} {I_InvalidWrite : Addr} {cda_InvalidWrite : Addr} {cc_InvalidWrite : Addr} {bs_InvalidWrite : List Value} {sn_InvalidWrite : List Str} {sub_InvalidWrite : List Value} {ab_InvalidWrite : Bool} {col_InvalidWrite : Option Bool} {dd_InvalidWrite : Option Addr} {m0_InvalidWrite : Option Value} {m1_InvalidWrite : Option Value} {m2_InvalidWrite : Option Value} {m3_InvalidWrite : Option Value} {m5_InvalidWrite : Option Value} {od_InvalidWrite : Option Addr} {an_InvalidWrite : Option Addr} {cdd_InvalidWrite : Option Addr} {cld_InvalidWrite : Option Addr} {sl_InvalidWrite : Array (Option Value)} {ccs_InvalidWrite : Array (Option Value)} {csl_InvalidWrite : Array (Option Value)} {oc_InvalidWrite : Value} {ocT_InvalidWrite : Value} {kV_InvalidWrite : Value} {dc_InvalidWrite : Value} {pm_InvalidWrite : Value} {ct_InvalidWrite : Value} {ccl_InvalidWrite : Value} {cl_InvalidWrite : Value} {T_InvalidWrite : Addr} {odT_InvalidWrite : Option Addr} {nT_InvalidWrite : Nat} {slT_InvalidWrite : Array (Option Value)} {vs_InvalidWrite : Array Value} {file_InvalidWrite : Str} {tf_InvalidWrite : Tok} {C_InvalidHistory : Addr} {C_InvalidContent : Addr} {nm_InvalidContent : Str} {q_InvalidContent : Str} {NN_InvalidContent : Addr} {I_InvalidContent : Addr} {cda_InvalidContent : Addr} {cc_InvalidContent : Addr} {bs_InvalidContent : List Value} {sn_InvalidContent : List Str} {sub_InvalidContent : List Value} {ab_InvalidContent : Bool} {col_InvalidContent : Option Bool} {dd_InvalidContent : Option Addr} {m0_InvalidContent : Option Value} {m1_InvalidContent : Option Value} {m2_InvalidContent : Option Value} {m3_InvalidContent : Option Value} {m5_InvalidContent : Option Value} {od_InvalidContent : Option Addr} {an_InvalidContent : Option Addr} {cdd_InvalidContent : Option Addr} {cld_InvalidContent : Option Addr} {sl_InvalidContent : Array (Option Value)} {ccs_InvalidContent : Array (Option Value)} {csl_InvalidContent : Array (Option Value)} {oc_InvalidContent : Value} {ocT_InvalidContent : Value} {kV_InvalidContent : Value} {dc_InvalidContent : Value} {pm_InvalidContent : Value} {ct_InvalidContent : Value} {ccl_InvalidContent : Value} {cl_InvalidContent : Value} {T_InvalidContent : Addr} {odT_InvalidContent : Option Addr} {nT_InvalidContent : Nat} {slT_InvalidContent : Array (Option Value)} {vs_InvalidContent : Array Value} {file_InvalidContent : Str} {tf_InvalidContent : Tok}
    (z_bool : PySem.W.nsIn K mainGlobals "bool" = some none)
    (z_enumerate : PySem.W.nsIn K mainGlobals "enumerate" = some none)
    (z_int : PySem.W.nsIn K mainGlobals "int" = some none)
    (z_isinstance : PySem.W.nsIn K mainGlobals "isinstance" = some none)
    (z_len : PySem.W.nsIn K mainGlobals "len" = some none)
    (z_list : PySem.W.nsIn K mainGlobals "list" = some none)
    (z_max : PySem.W.nsIn K mainGlobals "max" = some none)
    (z_min : PySem.W.nsIn K mainGlobals "min" = some none)
    (z_range : PySem.W.nsIn K mainGlobals "range" = some none)
    (z_set : PySem.W.nsIn K mainGlobals "set" = some none)
    (z_sorted : PySem.W.nsIn K mainGlobals "sorted" = some none)
    (z_str : PySem.W.nsIn K mainGlobals "str" = some none)
    (z_sum : PySem.W.nsIn K mainGlobals "sum" = some none)
    (z_super : PySem.W.nsIn K mainGlobals "super" = some none)
    (z_tuple : PySem.W.nsIn K mainGlobals "tuple" = some none)
    (g_SIGNS : PySem.W.nsIn K mainGlobals "SIGNS" = some (some (.str "abcdefghijklmnopqrstuvwxyz" tg_SIGNS)))
    (ac_File : PySem.W.nsIn K mainGlobals "File" = some (some (.ref C_File)))
    (ac_History : PySem.W.nsIn K mainGlobals "History" = some (some (.ref C_History)))
    (a_is_whole : PySem.W.nsIn K mainGlobals "is_whole" = some (some (.ref f_is_whole)))
    (l_is_whole : K.lookup f_is_whole = some ⟨oc_is_whole, od_is_whole, .func (PySem.W.fnOf "is_whole" "is_whole" (defArgs s_is_whole) (defBody s_is_whole) (defScope s_is_whole) .none kV_is_whole dc_is_whole pm_is_whole an_is_whole cd_is_whole ct_is_whole), sl_is_whole⟩)
    (c_is_whole : PySem.W.codeIn K cd_is_whole "is_whole" = true)
    (k_is_whole : PySem.W.keepIn K (.ref f_is_whole) = true)
    (a_check_least : PySem.W.nsIn K mainGlobals "check_least" = some (some (.ref f_check_least)))
    (l_check_least : K.lookup f_check_least = some ⟨oc_check_least, od_check_least, .func (PySem.W.fnOf "check_least" "check_least" (defArgs s_check_least) (defBody s_check_least) (defScope s_check_least) .none kV_check_least dc_check_least pm_check_least an_check_least cd_check_least ct_check_least), sl_check_least⟩)
    (c_check_least : PySem.W.codeIn K cd_check_least "check_least" = true)
    (k_check_least : PySem.W.keepIn K (.ref f_check_least) = true)
    (a_check_within : PySem.W.nsIn K mainGlobals "check_within" = some (some (.ref f_check_within)))
    (l_check_within : K.lookup f_check_within = some ⟨oc_check_within, od_check_within, .func (PySem.W.fnOf "check_within" "check_within" (defArgs s_check_within) (defBody s_check_within) (defScope s_check_within) .none kV_check_within dc_check_within pm_check_within an_check_within cd_check_within ct_check_within), sl_check_within⟩)
    (c_check_within : PySem.W.codeIn K cd_check_within "check_within" = true)
    (k_check_within : PySem.W.keepIn K (.ref f_check_within) = true)
    (a_are_cells : PySem.W.nsIn K mainGlobals "are_cells" = some (some (.ref f_are_cells)))
    (l_are_cells : K.lookup f_are_cells = some ⟨oc_are_cells, od_are_cells, .func (PySem.W.fnOf "are_cells" "are_cells" (defArgs s_are_cells) (defBody s_are_cells) (defScope s_are_cells) .none kV_are_cells dc_are_cells pm_are_cells an_are_cells cd_are_cells ct_are_cells), sl_are_cells⟩)
    (c_are_cells : PySem.W.codeIn K cd_are_cells "are_cells" = true)
    (k_are_cells : PySem.W.keepIn K (.ref f_are_cells) = true)
    (a_is_content : PySem.W.nsIn K mainGlobals "is_content" = some (some (.ref f_is_content)))
    (l_is_content : K.lookup f_is_content = some ⟨oc_is_content, od_is_content, .func (PySem.W.fnOf "is_content" "is_content" (defArgs s_is_content) (defBody s_is_content) (defScope s_is_content) .none kV_is_content dc_is_content pm_is_content an_is_content cd_is_content ct_is_content), sl_is_content⟩)
    (c_is_content : PySem.W.codeIn K cd_is_content "is_content" = true)
    (k_is_content : PySem.W.keepIn K (.ref f_is_content) = true)
    (a_check_file : PySem.W.nsIn K mainGlobals "check_file" = some (some (.ref f_check_file)))
    (l_check_file : K.lookup f_check_file = some ⟨oc_check_file, od_check_file, .func (PySem.W.fnOf "check_file" "check_file" (defArgs s_check_file) (defBody s_check_file) (defScope s_check_file) .none kV_check_file dc_check_file pm_check_file an_check_file cd_check_file ct_check_file), sl_check_file⟩)
    (c_check_file : PySem.W.codeIn K cd_check_file "check_file" = true)
    (k_check_file : PySem.W.keepIn K (.ref f_check_file) = true)
    (a_blocks_of : PySem.W.nsIn K mainGlobals "blocks_of" = some (some (.ref f_blocks_of)))
    (l_blocks_of : K.lookup f_blocks_of = some ⟨oc_blocks_of, od_blocks_of, .func (PySem.W.fnOf "blocks_of" "blocks_of" (defArgs s_blocks_of) (defBody s_blocks_of) (defScope s_blocks_of) .none kV_blocks_of dc_blocks_of pm_blocks_of an_blocks_of cd_blocks_of ct_blocks_of), sl_blocks_of⟩)
    (c_blocks_of : PySem.W.codeIn K cd_blocks_of "blocks_of" = true)
    (k_blocks_of : PySem.W.keepIn K (.ref f_blocks_of) = true)
    (a_is_write : PySem.W.nsIn K mainGlobals "is_write" = some (some (.ref f_is_write)))
    (l_is_write : K.lookup f_is_write = some ⟨oc_is_write, od_is_write, .func (PySem.W.fnOf "is_write" "is_write" (defArgs s_is_write) (defBody s_is_write) (defScope s_is_write) .none kV_is_write dc_is_write pm_is_write an_is_write cd_is_write ct_is_write), sl_is_write⟩)
    (c_is_write : PySem.W.codeIn K cd_is_write "is_write" = true)
    (k_is_write : PySem.W.keepIn K (.ref f_is_write) = true)
    (a_check_write : PySem.W.nsIn K mainGlobals "check_write" = some (some (.ref f_check_write)))
    (l_check_write : K.lookup f_check_write = some ⟨oc_check_write, od_check_write, .func (PySem.W.fnOf "check_write" "check_write" (defArgs s_check_write) (defBody s_check_write) (defScope s_check_write) .none kV_check_write dc_check_write pm_check_write an_check_write cd_check_write ct_check_write), sl_check_write⟩)
    (c_check_write : PySem.W.codeIn K cd_check_write "check_write" = true)
    (k_check_write : PySem.W.keepIn K (.ref f_check_write) = true)
    (a_written : PySem.W.nsIn K mainGlobals "written" = some (some (.ref f_written)))
    (l_written : K.lookup f_written = some ⟨oc_written, od_written, .func (PySem.W.fnOf "written" "written" (defArgs s_written) (defBody s_written) (defScope s_written) .none kV_written dc_written pm_written an_written cd_written ct_written), sl_written⟩)
    (c_written : PySem.W.codeIn K cd_written "written" = true)
    (k_written : PySem.W.keepIn K (.ref f_written) = true)
    (a_check_content : PySem.W.nsIn K mainGlobals "check_content" = some (some (.ref f_check_content)))
    (l_check_content : K.lookup f_check_content = some ⟨oc_check_content, od_check_content, .func (PySem.W.fnOf "check_content" "check_content" (defArgs s_check_content) (defBody s_check_content) (defScope s_check_content) .none kV_check_content dc_check_content pm_check_content an_check_content cd_check_content ct_check_content), sl_check_content⟩)
    (c_check_content : PySem.W.codeIn K cd_check_content "check_content" = true)
    (k_check_content : PySem.W.keepIn K (.ref f_check_content) = true)
    (a_check_history : PySem.W.nsIn K mainGlobals "check_history" = some (some (.ref f_check_history)))
    (l_check_history : K.lookup f_check_history = some ⟨oc_check_history, od_check_history, .func (PySem.W.fnOf "check_history" "check_history" (defArgs s_check_history) (defBody s_check_history) (defScope s_check_history) .none kV_check_history dc_check_history pm_check_history an_check_history cd_check_history ct_check_history), sl_check_history⟩)
    (c_check_history : PySem.W.codeIn K cd_check_history "check_history" = true)
    (k_check_history : PySem.W.keepIn K (.ref f_check_history) = true)
    (a_check_asked : PySem.W.nsIn K mainGlobals "check_asked" = some (some (.ref f_check_asked)))
    (l_check_asked : K.lookup f_check_asked = some ⟨oc_check_asked, od_check_asked, .func (PySem.W.fnOf "check_asked" "check_asked" (defArgs s_check_asked) (defBody s_check_asked) (defScope s_check_asked) .none kV_check_asked dc_check_asked pm_check_asked an_check_asked cd_check_asked ct_check_asked), sl_check_asked⟩)
    (c_check_asked : PySem.W.codeIn K cd_check_asked "check_asked" = true)
    (k_check_asked : PySem.W.keepIn K (.ref f_check_asked) = true)
    (a_columns_of : PySem.W.nsIn K mainGlobals "columns_of" = some (some (.ref f_columns_of)))
    (l_columns_of : K.lookup f_columns_of = some ⟨oc_columns_of, od_columns_of, .func (PySem.W.fnOf "columns_of" "columns_of" (defArgs s_columns_of) (defBody s_columns_of) (defScope s_columns_of) .none kV_columns_of dc_columns_of pm_columns_of an_columns_of cd_columns_of ct_columns_of), sl_columns_of⟩)
    (c_columns_of : PySem.W.codeIn K cd_columns_of "columns_of" = true)
    (k_columns_of : PySem.W.keepIn K (.ref f_columns_of) = true)
    (a_columns_along : PySem.W.nsIn K mainGlobals "columns_along" = some (some (.ref f_columns_along)))
    (l_columns_along : K.lookup f_columns_along = some ⟨oc_columns_along, od_columns_along, .func (PySem.W.fnOf "columns_along" "columns_along" (defArgs s_columns_along) (defBody s_columns_along) (defScope s_columns_along) .none kV_columns_along dc_columns_along pm_columns_along an_columns_along cd_columns_along ct_columns_along), sl_columns_along⟩)
    (c_columns_along : PySem.W.codeIn K cd_columns_along "columns_along" = true)
    (k_columns_along : PySem.W.keepIn K (.ref f_columns_along) = true)
    (a_earliest : PySem.W.nsIn K mainGlobals "earliest" = some (some (.ref f_earliest)))
    (l_earliest : K.lookup f_earliest = some ⟨oc_earliest, od_earliest, .func (PySem.W.fnOf "earliest" "earliest" (defArgs s_earliest) (defBody s_earliest) (defScope s_earliest) .none kV_earliest dc_earliest pm_earliest an_earliest cd_earliest ct_earliest), sl_earliest⟩)
    (c_earliest : PySem.W.codeIn K cd_earliest "earliest" = true)
    (k_earliest : PySem.W.keepIn K (.ref f_earliest) = true)
    (a_copy_moments : PySem.W.nsIn K mainGlobals "copy_moments" = some (some (.ref f_copy_moments)))
    (l_copy_moments : K.lookup f_copy_moments = some ⟨oc_copy_moments, od_copy_moments, .func (PySem.W.fnOf "copy_moments" "copy_moments" (defArgs s_copy_moments) (defBody s_copy_moments) (defScope s_copy_moments) .none (.ref KD_copy_moments) dc_copy_moments pm_copy_moments an_copy_moments cd_copy_moments ct_copy_moments), sl_copy_moments⟩)
    (c_copy_moments : PySem.W.codeIn K cd_copy_moments "copy_moments" = true)
    (k_copy_moments : PySem.W.keepIn K (.ref f_copy_moments) = true)
    (a_late_block : PySem.W.nsIn K mainGlobals "late_block" = some (some (.ref f_late_block)))
    (l_late_block : K.lookup f_late_block = some ⟨oc_late_block, od_late_block, .func (PySem.W.fnOf "late_block" "late_block" (defArgs s_late_block) (defBody s_late_block) (defScope s_late_block) .none (.ref KD_late_block) dc_late_block pm_late_block an_late_block cd_late_block ct_late_block), sl_late_block⟩)
    (c_late_block : PySem.W.codeIn K cd_late_block "late_block" = true)
    (k_late_block : PySem.W.keepIn K (.ref f_late_block) = true)
    (a_readings : PySem.W.nsIn K mainGlobals "readings" = some (some (.ref f_readings)))
    (l_readings : K.lookup f_readings = some ⟨oc_readings, od_readings, .func (PySem.W.fnOf "readings" "readings" (defArgs s_readings) (defBody s_readings) (defScope s_readings) .none kV_readings dc_readings pm_readings an_readings cd_readings ct_readings), sl_readings⟩)
    (c_readings : PySem.W.codeIn K cd_readings "readings" = true)
    (k_readings : PySem.W.keepIn K (.ref f_readings) = true)
    (a_counts_of : PySem.W.nsIn K mainGlobals "counts_of" = some (some (.ref f_counts_of)))
    (l_counts_of : K.lookup f_counts_of = some ⟨oc_counts_of, od_counts_of, .func (PySem.W.fnOf "counts_of" "counts_of" (defArgs s_counts_of) (defBody s_counts_of) (defScope s_counts_of) .none kV_counts_of dc_counts_of pm_counts_of an_counts_of cd_counts_of ct_counts_of), sl_counts_of⟩)
    (c_counts_of : PySem.W.codeIn K cd_counts_of "counts_of" = true)
    (k_counts_of : PySem.W.keepIn K (.ref f_counts_of) = true)
    (a_content_of : PySem.W.nsIn K mainGlobals "content_of" = some (some (.ref f_content_of)))
    (l_content_of : K.lookup f_content_of = some ⟨oc_content_of, od_content_of, .func (PySem.W.fnOf "content_of" "content_of" (defArgs s_content_of) (defBody s_content_of) (defScope s_content_of) .none kV_content_of dc_content_of pm_content_of an_content_of cd_content_of ct_content_of), sl_content_of⟩)
    (c_content_of : PySem.W.codeIn K cd_content_of "content_of" = true)
    (k_content_of : PySem.W.keepIn K (.ref f_content_of) = true)
    (a_number_of : PySem.W.nsIn K mainGlobals "number_of" = some (some (.ref f_number_of)))
    (l_number_of : K.lookup f_number_of = some ⟨oc_number_of, od_number_of, .func (PySem.W.fnOf "number_of" "number_of" (defArgs s_number_of) (defBody s_number_of) (defScope s_number_of) .none kV_number_of dc_number_of pm_number_of an_number_of cd_number_of ct_number_of), sl_number_of⟩)
    (c_number_of : PySem.W.codeIn K cd_number_of "number_of" = true)
    (k_number_of : PySem.W.keepIn K (.ref f_number_of) = true)
    (a_copy_count : PySem.W.nsIn K mainGlobals "copy_count" = some (some (.ref f_copy_count)))
    (l_copy_count : K.lookup f_copy_count = some ⟨oc_copy_count, od_copy_count, .func (PySem.W.fnOf "copy_count" "copy_count" (defArgs s_copy_count) (defBody s_copy_count) (defScope s_copy_count) .none (.ref KD_copy_count) dc_copy_count pm_copy_count an_copy_count cd_copy_count ct_copy_count), sl_copy_count⟩)
    (c_copy_count : PySem.W.codeIn K cd_copy_count "copy_count" = true)
    (k_copy_count : PySem.W.keepIn K (.ref f_copy_count) = true)
    (kd_copy_count_down : PySem.W.nsIn K KD_copy_count "down" = some (some (.bool false)))
    (a_copy_at : PySem.W.nsIn K mainGlobals "copy_at" = some (some (.ref f_copy_at)))
    (l_copy_at : K.lookup f_copy_at = some ⟨oc_copy_at, od_copy_at, .func (PySem.W.fnOf "copy_at" "copy_at" (defArgs s_copy_at) (defBody s_copy_at) (defScope s_copy_at) .none (.ref KD_copy_at) dc_copy_at pm_copy_at an_copy_at cd_copy_at ct_copy_at), sl_copy_at⟩)
    (c_copy_at : PySem.W.codeIn K cd_copy_at "copy_at" = true)
    (k_copy_at : PySem.W.keepIn K (.ref f_copy_at) = true)
    (kd_copy_at_down : PySem.W.nsIn K KD_copy_at "down" = some (some (.bool false)))
    (a_copy_number : PySem.W.nsIn K mainGlobals "copy_number" = some (some (.ref f_copy_number)))
    (l_copy_number : K.lookup f_copy_number = some ⟨oc_copy_number, od_copy_number, .func (PySem.W.fnOf "copy_number" "copy_number" (defArgs s_copy_number) (defBody s_copy_number) (defScope s_copy_number) .none (.ref KD_copy_number) dc_copy_number pm_copy_number an_copy_number cd_copy_number ct_copy_number), sl_copy_number⟩)
    (c_copy_number : PySem.W.codeIn K cd_copy_number "copy_number" = true)
    (k_copy_number : PySem.W.keepIn K (.ref f_copy_number) = true)
    (a_law_spring : PySem.W.nsIn K mainGlobals "_law_spring" = some (some (.ref f_law_spring)))
    (l_law_spring : K.lookup f_law_spring = some ⟨oc_law_spring, od_law_spring, .func (PySem.W.fnOf "_law_spring" "_law_spring" (defArgs s_law_spring) (defBody s_law_spring) (defScope s_law_spring) .none kV_law_spring dc_law_spring pm_law_spring an_law_spring cd_law_spring ct_law_spring), sl_law_spring⟩)
    (c_law_spring : PySem.W.codeIn K cd_law_spring "_law_spring" = true)
    (k_law_spring : PySem.W.keepIn K (.ref f_law_spring) = true)
    (a_law_sip : PySem.W.nsIn K mainGlobals "_law_sip" = some (some (.ref f_law_sip)))
    (l_law_sip : K.lookup f_law_sip = some ⟨oc_law_sip, od_law_sip, .func (PySem.W.fnOf "_law_sip" "_law_sip" (defArgs s_law_sip) (defBody s_law_sip) (defScope s_law_sip) .none kV_law_sip dc_law_sip pm_law_sip an_law_sip cd_law_sip ct_law_sip), sl_law_sip⟩)
    (c_law_sip : PySem.W.codeIn K cd_law_sip "_law_sip" = true)
    (k_law_sip : PySem.W.keepIn K (.ref f_law_sip) = true)
    (a_law_cells : PySem.W.nsIn K mainGlobals "_law_cells" = some (some (.ref f_law_cells)))
    (l_law_cells : K.lookup f_law_cells = some ⟨oc_law_cells, od_law_cells, .func (PySem.W.fnOf "_law_cells" "_law_cells" (defArgs s_law_cells) (defBody s_law_cells) (defScope s_law_cells) .none kV_law_cells dc_law_cells pm_law_cells an_law_cells cd_law_cells ct_law_cells), sl_law_cells⟩)
    (c_law_cells : PySem.W.codeIn K cd_law_cells "_law_cells" = true)
    (k_law_cells : PySem.W.keepIn K (.ref f_law_cells) = true)
    (a_law_text : PySem.W.nsIn K mainGlobals "_law_text" = some (some (.ref f_law_text)))
    (l_law_text : K.lookup f_law_text = some ⟨oc_law_text, od_law_text, .func (PySem.W.fnOf "_law_text" "_law_text" (defArgs s_law_text) (defBody s_law_text) (defScope s_law_text) .none kV_law_text dc_law_text pm_law_text an_law_text cd_law_text ct_law_text), sl_law_text⟩)
    (c_law_text : PySem.W.codeIn K cd_law_text "_law_text" = true)
    (k_law_text : PySem.W.keepIn K (.ref f_law_text) = true)
    (a_law_writes : PySem.W.nsIn K mainGlobals "_law_writes" = some (some (.ref f_law_writes)))
    (l_law_writes : K.lookup f_law_writes = some ⟨oc_law_writes, od_law_writes, .func (PySem.W.fnOf "_law_writes" "_law_writes" (defArgs s_law_writes) (defBody s_law_writes) (defScope s_law_writes) .none kV_law_writes dc_law_writes pm_law_writes an_law_writes cd_law_writes ct_law_writes), sl_law_writes⟩)
    (c_law_writes : PySem.W.codeIn K cd_law_writes "_law_writes" = true)
    (k_law_writes : PySem.W.keepIn K (.ref f_law_writes) = true)
    (a_law_states : PySem.W.nsIn K mainGlobals "_law_states" = some (some (.ref f_law_states)))
    (l_law_states : K.lookup f_law_states = some ⟨oc_law_states, od_law_states, .func (PySem.W.fnOf "_law_states" "_law_states" (defArgs s_law_states) (defBody s_law_states) (defScope s_law_states) .none kV_law_states dc_law_states pm_law_states an_law_states cd_law_states ct_law_states), sl_law_states⟩)
    (c_law_states : PySem.W.codeIn K cd_law_states "_law_states" = true)
    (k_law_states : PySem.W.keepIn K (.ref f_law_states) = true)
    (a_law_blocks : PySem.W.nsIn K mainGlobals "_law_blocks" = some (some (.ref f_law_blocks)))
    (l_law_blocks : K.lookup f_law_blocks = some ⟨oc_law_blocks, od_law_blocks, .func (PySem.W.fnOf "_law_blocks" "_law_blocks" (defArgs s_law_blocks) (defBody s_law_blocks) (defScope s_law_blocks) .none kV_law_blocks dc_law_blocks pm_law_blocks an_law_blocks cd_law_blocks ct_law_blocks), sl_law_blocks⟩)
    (c_law_blocks : PySem.W.codeIn K cd_law_blocks "_law_blocks" = true)
    (k_law_blocks : PySem.W.keepIn K (.ref f_law_blocks) = true)
    (a_law_early : PySem.W.nsIn K mainGlobals "_law_early" = some (some (.ref f_law_early)))
    (l_law_early : K.lookup f_law_early = some ⟨oc_law_early, od_law_early, .func (PySem.W.fnOf "_law_early" "_law_early" (defArgs s_law_early) (defBody s_law_early) (defScope s_law_early) .none kV_law_early dc_law_early pm_law_early an_law_early cd_law_early ct_law_early), sl_law_early⟩)
    (c_law_early : PySem.W.codeIn K cd_law_early "_law_early" = true)
    (k_law_early : PySem.W.keepIn K (.ref f_law_early) = true)
    (a_law_walks : PySem.W.nsIn K mainGlobals "_law_walks" = some (some (.ref f_law_walks)))
    (l_law_walks : K.lookup f_law_walks = some ⟨oc_law_walks, od_law_walks, .func (PySem.W.fnOf "_law_walks" "_law_walks" (defArgs s_law_walks) (defBody s_law_walks) (defScope s_law_walks) .none kV_law_walks dc_law_walks pm_law_walks an_law_walks cd_law_walks ct_law_walks), sl_law_walks⟩)
    (c_law_walks : PySem.W.codeIn K cd_law_walks "_law_walks" = true)
    (k_law_walks : PySem.W.keepIn K (.ref f_law_walks) = true)
    (a_law_read : PySem.W.nsIn K mainGlobals "_law_read" = some (some (.ref f_law_read)))
    (l_law_read : K.lookup f_law_read = some ⟨oc_law_read, od_law_read, .func (PySem.W.fnOf "_law_read" "_law_read" (defArgs s_law_read) (defBody s_law_read) (defScope s_law_read) .none kV_law_read dc_law_read pm_law_read an_law_read cd_law_read ct_law_read), sl_law_read⟩)
    (c_law_read : PySem.W.codeIn K cd_law_read "_law_read" = true)
    (k_law_read : PySem.W.keepIn K (.ref f_law_read) = true)
    (a_law_mixes : PySem.W.nsIn K mainGlobals "_law_mixes" = some (some (.ref f_law_mixes)))
    (l_law_mixes : K.lookup f_law_mixes = some ⟨oc_law_mixes, od_law_mixes, .func (PySem.W.fnOf "_law_mixes" "_law_mixes" (defArgs s_law_mixes) (defBody s_law_mixes) (defScope s_law_mixes) .none kV_law_mixes dc_law_mixes pm_law_mixes an_law_mixes cd_law_mixes ct_law_mixes), sl_law_mixes⟩)
    (c_law_mixes : PySem.W.codeIn K cd_law_mixes "_law_mixes" = true)
    (k_law_mixes : PySem.W.keepIn K (.ref f_law_mixes) = true)
    (a_law_right : PySem.W.nsIn K mainGlobals "_law_right" = some (some (.ref f_law_right)))
    (l_law_right : K.lookup f_law_right = some ⟨oc_law_right, od_law_right, .func (PySem.W.fnOf "_law_right" "_law_right" (defArgs s_law_right) (defBody s_law_right) (defScope s_law_right) .none kV_law_right dc_law_right pm_law_right an_law_right cd_law_right ct_law_right), sl_law_right⟩)
    (c_law_right : PySem.W.codeIn K cd_law_right "_law_right" = true)
    (k_law_right : PySem.W.keepIn K (.ref f_law_right) = true)
    (a_law : PySem.W.nsIn K mainGlobals "law" = some (some (.ref f_law)))
    (l_law : K.lookup f_law = some ⟨oc_law, od_law, .func (PySem.W.fnOf "law" "law" (defArgs s_law) (defBody s_law) (defScope s_law) .none kV_law dc_law pm_law an_law cd_law ct_law), sl_law⟩)
    (c_law : PySem.W.codeIn K cd_law "law" = true)
    (k_law : PySem.W.keepIn K (.ref f_law) = true)
    (a_File_init : PySem.W.findIn K (.ref C_File) "__init__" = some (some (.ref f_File_init)))
    (i_File_init : PySem.W.isFn K (.ref f_File_init) = true)
    (l_File_init : K.lookup f_File_init = some ⟨oc_File_init, od_File_init, .func (PySem.W.fnOf "__init__" "File.__init__" (defArgs s_File_init) (defBody s_File_init) (defScope s_File_init) (.ref T_File_init) kV_File_init dc_File_init pm_File_init an_File_init cd_File_init ct_File_init), sl_File_init⟩)
    (c_File_init : PySem.W.codeIn K cd_File_init "File.__init__" = true)
    (k_File_init : PySem.W.keepIn K (.ref f_File_init) = true)
    (ld_File_init : K.lookup T_File_init = some ⟨ocT_File_init, odT_File_init, .seq #[(.str "" tk0_File_init)] nT_File_init, slT_File_init⟩)
    (pa_File_content : PySem.W.findIn K (.ref C_File) "content" = some (some (.ref pr_File_content)))
    (pb_File_content : PySem.W.specialIn K (.ref pr_File_content) "__get__" = some (some (.builtin "property.__get__")))
    (pc_File_content : PySem.W.takesIn K (.ref pr_File_content) = some true)
    (pd_File_content : PySem.W.recIn K pr_File_content "property" = some (.ref f_File_content :: rs_File_content))
    (l_File_content : K.lookup f_File_content = some ⟨oc_File_content, od_File_content, .func (PySem.W.fnOf "content" "File.content" (defArgs s_File_content) (defBody s_File_content) (defScope s_File_content) .none kV_File_content dc_File_content pm_File_content an_File_content cd_File_content ct_File_content), sl_File_content⟩)
    (c_File_content : PySem.W.codeIn K cd_File_content "File.content" = true)
    (k_File_content : PySem.W.keepIn K (.ref f_File_content) = true)
    (a_File_len : PySem.W.findIn K (.ref C_File) "__len__" = some (some (.ref f_File_len)))
    (i_File_len : PySem.W.isFn K (.ref f_File_len) = true)
    (l_File_len : K.lookup f_File_len = some ⟨oc_File_len, od_File_len, .func (PySem.W.fnOf "__len__" "File.__len__" (defArgs s_File_len) (defBody s_File_len) (defScope s_File_len) .none kV_File_len dc_File_len pm_File_len an_File_len cd_File_len ct_File_len), sl_File_len⟩)
    (c_File_len : PySem.W.codeIn K cd_File_len "File.__len__" = true)
    (k_File_len : PySem.W.keepIn K (.ref f_File_len) = true)
    (a_File_eq : PySem.W.findIn K (.ref C_File) "__eq__" = some (some (.ref f_File_eq)))
    (i_File_eq : PySem.W.isFn K (.ref f_File_eq) = true)
    (l_File_eq : K.lookup f_File_eq = some ⟨oc_File_eq, od_File_eq, .func (PySem.W.fnOf "__eq__" "File.__eq__" (defArgs s_File_eq) (defBody s_File_eq) (defScope s_File_eq) .none kV_File_eq dc_File_eq pm_File_eq an_File_eq cd_File_eq ct_File_eq), sl_File_eq⟩)
    (c_File_eq : PySem.W.codeIn K cd_File_eq "File.__eq__" = true)
    (k_File_eq : PySem.W.keepIn K (.ref f_File_eq) = true)
    (a_History_init : PySem.W.findIn K (.ref C_History) "__init__" = some (some (.ref f_History_init)))
    (i_History_init : PySem.W.isFn K (.ref f_History_init) = true)
    (l_History_init : K.lookup f_History_init = some ⟨oc_History_init, od_History_init, .func (PySem.W.fnOf "__init__" "History.__init__" (defArgs s_History_init) (defBody s_History_init) (defScope s_History_init) (.ref T_History_init) kV_History_init dc_History_init pm_History_init an_History_init cd_History_init ct_History_init), sl_History_init⟩)
    (c_History_init : PySem.W.codeIn K cd_History_init "History.__init__" = true)
    (k_History_init : PySem.W.keepIn K (.ref f_History_init) = true)
    (ld_History_init : K.lookup T_History_init = some ⟨ocT_History_init, odT_History_init, .seq #[.none] nT_History_init, slT_History_init⟩)
    (pa_History_file : PySem.W.findIn K (.ref C_History) "file" = some (some (.ref pr_History_file)))
    (pb_History_file : PySem.W.specialIn K (.ref pr_History_file) "__get__" = some (some (.builtin "property.__get__")))
    (pc_History_file : PySem.W.takesIn K (.ref pr_History_file) = some true)
    (pd_History_file : PySem.W.recIn K pr_History_file "property" = some (.ref f_History_file :: rs_History_file))
    (l_History_file : K.lookup f_History_file = some ⟨oc_History_file, od_History_file, .func (PySem.W.fnOf "file" "History.file" (defArgs s_History_file) (defBody s_History_file) (defScope s_History_file) .none kV_History_file dc_History_file pm_History_file an_History_file cd_History_file ct_History_file), sl_History_file⟩)
    (c_History_file : PySem.W.codeIn K cd_History_file "History.file" = true)
    (k_History_file : PySem.W.keepIn K (.ref f_History_file) = true)
    (a_History_len : PySem.W.findIn K (.ref C_History) "__len__" = some (some (.ref f_History_len)))
    (i_History_len : PySem.W.isFn K (.ref f_History_len) = true)
    (l_History_len : K.lookup f_History_len = some ⟨oc_History_len, od_History_len, .func (PySem.W.fnOf "__len__" "History.__len__" (defArgs s_History_len) (defBody s_History_len) (defScope s_History_len) .none kV_History_len dc_History_len pm_History_len an_History_len cd_History_len ct_History_len), sl_History_len⟩)
    (c_History_len : PySem.W.codeIn K cd_History_len "History.__len__" = true)
    (k_History_len : PySem.W.keepIn K (.ref f_History_len) = true)
    (a_History_eq : PySem.W.findIn K (.ref C_History) "__eq__" = some (some (.ref f_History_eq)))
    (i_History_eq : PySem.W.isFn K (.ref f_History_eq) = true)
    (l_History_eq : K.lookup f_History_eq = some ⟨oc_History_eq, od_History_eq, .func (PySem.W.fnOf "__eq__" "History.__eq__" (defArgs s_History_eq) (defBody s_History_eq) (defScope s_History_eq) .none kV_History_eq dc_History_eq pm_History_eq an_History_eq cd_History_eq ct_History_eq), sl_History_eq⟩)
    (c_History_eq : PySem.W.codeIn K cd_History_eq "History.__eq__" = true)
    (k_History_eq : PySem.W.keepIn K (.ref f_History_eq) = true)
    (a_History_states : PySem.W.findIn K (.ref C_History) "states" = some (some (.ref f_History_states)))
    (i_History_states : PySem.W.isFn K (.ref f_History_states) = true)
    (l_History_states : K.lookup f_History_states = some ⟨oc_History_states, od_History_states, .func (PySem.W.fnOf "states" "History.states" (defArgs s_History_states) (defBody s_History_states) (defScope s_History_states) .none kV_History_states dc_History_states pm_History_states an_History_states cd_History_states ct_History_states), sl_History_states⟩)
    (c_History_states : PySem.W.codeIn K cd_History_states "History.states" = true)
    (k_History_states : PySem.W.keepIn K (.ref f_History_states) = true)
    (ohn : PySem.W.specialIn K (.builtin "object.__class__") "__get__" = some (some (.builtin "getset_descriptor.__get__")))
    (otk : PySem.W.takesIn K (.builtin "object.__class__") = some true)
    (pg_File : PySem.W.plainGet K C_File Str.empty = true)
    (hd_File : PySem.W.hasDictIn K C_File = true)
    (po_File : PySem.W.plainOver K C_File = true)
    (sa_File : PySem.W.findIn K (.ref C_File) "__setattr__" = some (some (.builtin "object.__setattr__")))
    (ha_File : PySem.W.findIn K (.ref C_File) "__class__" = some (some (.builtin "object.__class__")))
    (mr_File : PySem.W.mroIn K C_File (.type "object") = some true)
    (mk_File : PySem.W.makesIn K C_File = true)
    (kc_File : PySem.W.keepIn K (.ref C_File) = true)
    (na_File_row : PySem.W.findIn K (.ref C_File) "row" = some none)
    (pg_History : PySem.W.plainGet K C_History Str.empty = true)
    (hd_History : PySem.W.hasDictIn K C_History = true)
    (po_History : PySem.W.plainOver K C_History = true)
    (sa_History : PySem.W.findIn K (.ref C_History) "__setattr__" = some (some (.builtin "object.__setattr__")))
    (ha_History : PySem.W.findIn K (.ref C_History) "__class__" = some (some (.builtin "object.__class__")))
    (mr_History : PySem.W.mroIn K C_History (.type "object") = some true)
    (mk_History : PySem.W.makesIn K C_History = true)
    (kc_History : PySem.W.keepIn K (.ref C_History) = true)
    (na_History_start : PySem.W.findIn K (.ref C_History) "start" = some none)
    (na_History_rows : PySem.W.findIn K (.ref C_History) "rows" = some none)
    (zop : PySem.W.nsIn K cStatics "thirdparty.any" = some none)
    (ac_InvalidFile : PySem.W.nsIn K mainGlobals "InvalidFile" = some (some (.ref C_InvalidFile)))
    (ac_HoleError : PySem.W.nsIn K mainGlobals "HoleError" = some (some (.ref C_HoleError)))
    (xL_InvalidFile : K.lookup C_InvalidFile = some (excClassObj nm_InvalidFile q_InvalidFile C_InvalidFile NN_InvalidFile bs_InvalidFile [.ref C_HoleError, .type "ValueError", .type "Exception", .type "BaseException", .type "object"] true sn_InvalidFile sub_InvalidFile ab_InvalidFile col_InvalidFile dd_InvalidFile m0_InvalidFile m1_InvalidFile m2_InvalidFile m3_InvalidFile m5_InvalidFile "ValueError.__new__"))
    (sa_InvalidFile : PySem.W.findIn K (.ref C_InvalidFile) "__setattr__" = some (some (.builtin "object.__setattr__")))
    (nb_InvalidFile : PySem.W.findIn K (.ref C_InvalidFile) "value" = some none)
    (i_InvalidFile : PySem.W.findIn K (.ref C_InvalidFile) "__init__" = some (some (.ref I_InvalidFile)))
    (t_InvalidFile : PySem.W.typeIn K (.ref I_InvalidFile) = some (.type "function"))
    (l_InvalidFile : K.lookup I_InvalidFile = some ⟨oc_InvalidFile, od_InvalidFile, .func (ksFn "__init__" "InvalidFile.__init__" (defArgs si_InvalidFile) (defBody si_InvalidFile) (defScope si_InvalidFile) (.ref T_InvalidFile) kV_InvalidFile dc_InvalidFile pm_InvalidFile an_InvalidFile (.ref cda_InvalidFile) ct_InvalidFile cc_InvalidFile), sl_InvalidFile⟩)
    (ld_InvalidFile : K.lookup T_InvalidFile = some ⟨ocT_InvalidFile, odT_InvalidFile, .seq #[.none] nT_InvalidFile, slT_InvalidFile⟩)
    (cd_InvalidFile : PySem.W.codeIn K (.ref cda_InvalidFile) "InvalidFile.__init__" = true)
    (cr_InvalidFile : K.lookup cda_InvalidFile = some ⟨ccl_InvalidFile, cdd_InvalidFile, .fields vs_InvalidFile, ccs_InvalidFile⟩)
    (v2_InvalidFile : vs_InvalidFile[2]? = some (.str file_InvalidFile tf_InvalidFile))
    (fl_InvalidFile : ((PySem.Challenge.rw_keptholes_k52_copies_by_all_moments.prog.main.file : Str) == file_InvalidFile) = true)
    (clc_InvalidFile : K.lookup cc_InvalidFile = some ⟨cl_InvalidFile, cld_InvalidFile, .cell (some (.ref C_InvalidFile)), csl_InvalidFile⟩)
    (al_InvalidFile : PySem.W.ks_superIn K C_InvalidFile C_InvalidFile "__init__" = some (some (.builtin "ValueError.__init__")))
    (sV_InvalidFile : PySem.W.subIn K (.ref C_InvalidFile) (.type "ValueError") = some true)
    (eC_InvalidFile : PySem.W.subIn K (.ref C_InvalidFile) (.type "BaseException") = some true)
    (sC_InvalidFile : PySem.W.mroIn K C_InvalidFile (.ref C_InvalidFile) = some true)
    (kC_InvalidFile : PySem.W.keepIn K (.ref C_InvalidFile) = true)
    (tC_InvalidFile : PySem.W.typeIn K (.ref C_InvalidFile) = some (.type "type"))
    (ac_InvalidNumber : PySem.W.nsIn K mainGlobals "InvalidNumber" = some (some (.ref C_InvalidNumber)))
    (xL_InvalidNumber : K.lookup C_InvalidNumber = some (excClassObj nm_InvalidNumber q_InvalidNumber C_InvalidNumber NN_InvalidNumber bs_InvalidNumber [.ref C_HoleError, .type "ValueError", .type "Exception", .type "BaseException", .type "object"] true sn_InvalidNumber sub_InvalidNumber ab_InvalidNumber col_InvalidNumber dd_InvalidNumber m0_InvalidNumber m1_InvalidNumber m2_InvalidNumber m3_InvalidNumber m5_InvalidNumber "ValueError.__new__"))
    (sa_InvalidNumber : PySem.W.findIn K (.ref C_InvalidNumber) "__setattr__" = some (some (.builtin "object.__setattr__")))
    (nb_InvalidNumber : PySem.W.findIn K (.ref C_InvalidNumber) "value" = some none)
    (i_InvalidNumber : PySem.W.findIn K (.ref C_InvalidNumber) "__init__" = some (some (.ref I_InvalidNumber)))
    (t_InvalidNumber : PySem.W.typeIn K (.ref I_InvalidNumber) = some (.type "function"))
    (l_InvalidNumber : K.lookup I_InvalidNumber = some ⟨oc_InvalidNumber, od_InvalidNumber, .func (ksFn "__init__" "InvalidNumber.__init__" (defArgs si_InvalidNumber) (defBody si_InvalidNumber) (defScope si_InvalidNumber) (.ref T_InvalidNumber) kV_InvalidNumber dc_InvalidNumber pm_InvalidNumber an_InvalidNumber (.ref cda_InvalidNumber) ct_InvalidNumber cc_InvalidNumber), sl_InvalidNumber⟩)
    (ld_InvalidNumber : K.lookup T_InvalidNumber = some ⟨ocT_InvalidNumber, odT_InvalidNumber, .seq #[.none] nT_InvalidNumber, slT_InvalidNumber⟩)
    (cd_InvalidNumber : PySem.W.codeIn K (.ref cda_InvalidNumber) "InvalidNumber.__init__" = true)
    (cr_InvalidNumber : K.lookup cda_InvalidNumber = some ⟨ccl_InvalidNumber, cdd_InvalidNumber, .fields vs_InvalidNumber, ccs_InvalidNumber⟩)
    (v2_InvalidNumber : vs_InvalidNumber[2]? = some (.str file_InvalidNumber tf_InvalidNumber))
    (fl_InvalidNumber : ((PySem.Challenge.rw_keptholes_k52_copies_by_all_moments.prog.main.file : Str) == file_InvalidNumber) = true)
    (clc_InvalidNumber : K.lookup cc_InvalidNumber = some ⟨cl_InvalidNumber, cld_InvalidNumber, .cell (some (.ref C_InvalidNumber)), csl_InvalidNumber⟩)
    (al_InvalidNumber : PySem.W.ks_superIn K C_InvalidNumber C_InvalidNumber "__init__" = some (some (.builtin "ValueError.__init__")))
    (sV_InvalidNumber : PySem.W.subIn K (.ref C_InvalidNumber) (.type "ValueError") = some true)
    (eC_InvalidNumber : PySem.W.subIn K (.ref C_InvalidNumber) (.type "BaseException") = some true)
    (sC_InvalidNumber : PySem.W.mroIn K C_InvalidNumber (.ref C_InvalidNumber) = some true)
    (kC_InvalidNumber : PySem.W.keepIn K (.ref C_InvalidNumber) = true)
    (tC_InvalidNumber : PySem.W.typeIn K (.ref C_InvalidNumber) = some (.type "type"))
    (ac_InvalidList : PySem.W.nsIn K mainGlobals "InvalidList" = some (some (.ref C_InvalidList)))
    (ac_InvalidWrite : PySem.W.nsIn K mainGlobals "InvalidWrite" = some (some (.ref C_InvalidWrite)))
    (xL_InvalidWrite : K.lookup C_InvalidWrite = some (excClassObj nm_InvalidWrite q_InvalidWrite C_InvalidWrite NN_InvalidWrite bs_InvalidWrite [.ref C_HoleError, .type "ValueError", .type "Exception", .type "BaseException", .type "object"] true sn_InvalidWrite sub_InvalidWrite ab_InvalidWrite col_InvalidWrite dd_InvalidWrite m0_InvalidWrite m1_InvalidWrite m2_InvalidWrite m3_InvalidWrite m5_InvalidWrite "ValueError.__new__"))
    (sa_InvalidWrite : PySem.W.findIn K (.ref C_InvalidWrite) "__setattr__" = some (some (.builtin "object.__setattr__")))
    (nb_InvalidWrite : PySem.W.findIn K (.ref C_InvalidWrite) "value" = some none)
    (i_InvalidWrite : PySem.W.findIn K (.ref C_InvalidWrite) "__init__" = some (some (.ref I_InvalidWrite)))
    (t_InvalidWrite : PySem.W.typeIn K (.ref I_InvalidWrite) = some (.type "function"))
    (l_InvalidWrite : K.lookup I_InvalidWrite = some ⟨oc_InvalidWrite, od_InvalidWrite, .func (ksFn "__init__" "InvalidWrite.__init__" (defArgs si_InvalidWrite) (defBody si_InvalidWrite) (defScope si_InvalidWrite) (.ref T_InvalidWrite) kV_InvalidWrite dc_InvalidWrite pm_InvalidWrite an_InvalidWrite (.ref cda_InvalidWrite) ct_InvalidWrite cc_InvalidWrite), sl_InvalidWrite⟩)
    (ld_InvalidWrite : K.lookup T_InvalidWrite = some ⟨ocT_InvalidWrite, odT_InvalidWrite, .seq #[.none] nT_InvalidWrite, slT_InvalidWrite⟩)
    (cd_InvalidWrite : PySem.W.codeIn K (.ref cda_InvalidWrite) "InvalidWrite.__init__" = true)
    (cr_InvalidWrite : K.lookup cda_InvalidWrite = some ⟨ccl_InvalidWrite, cdd_InvalidWrite, .fields vs_InvalidWrite, ccs_InvalidWrite⟩)
    (v2_InvalidWrite : vs_InvalidWrite[2]? = some (.str file_InvalidWrite tf_InvalidWrite))
    (fl_InvalidWrite : ((PySem.Challenge.rw_keptholes_k52_copies_by_all_moments.prog.main.file : Str) == file_InvalidWrite) = true)
    (clc_InvalidWrite : K.lookup cc_InvalidWrite = some ⟨cl_InvalidWrite, cld_InvalidWrite, .cell (some (.ref C_InvalidWrite)), csl_InvalidWrite⟩)
    (al_InvalidWrite : PySem.W.ks_superIn K C_InvalidWrite C_InvalidWrite "__init__" = some (some (.builtin "ValueError.__init__")))
    (sV_InvalidWrite : PySem.W.subIn K (.ref C_InvalidWrite) (.type "ValueError") = some true)
    (eC_InvalidWrite : PySem.W.subIn K (.ref C_InvalidWrite) (.type "BaseException") = some true)
    (sC_InvalidWrite : PySem.W.mroIn K C_InvalidWrite (.ref C_InvalidWrite) = some true)
    (kC_InvalidWrite : PySem.W.keepIn K (.ref C_InvalidWrite) = true)
    (tC_InvalidWrite : PySem.W.typeIn K (.ref C_InvalidWrite) = some (.type "type"))
    (ac_InvalidHistory : PySem.W.nsIn K mainGlobals "InvalidHistory" = some (some (.ref C_InvalidHistory)))
    (ac_InvalidContent : PySem.W.nsIn K mainGlobals "InvalidContent" = some (some (.ref C_InvalidContent)))
    (xL_InvalidContent : K.lookup C_InvalidContent = some (excClassObj nm_InvalidContent q_InvalidContent C_InvalidContent NN_InvalidContent bs_InvalidContent [.ref C_HoleError, .type "ValueError", .type "Exception", .type "BaseException", .type "object"] true sn_InvalidContent sub_InvalidContent ab_InvalidContent col_InvalidContent dd_InvalidContent m0_InvalidContent m1_InvalidContent m2_InvalidContent m3_InvalidContent m5_InvalidContent "ValueError.__new__"))
    (sa_InvalidContent : PySem.W.findIn K (.ref C_InvalidContent) "__setattr__" = some (some (.builtin "object.__setattr__")))
    (nb_InvalidContent : PySem.W.findIn K (.ref C_InvalidContent) "value" = some none)
    (i_InvalidContent : PySem.W.findIn K (.ref C_InvalidContent) "__init__" = some (some (.ref I_InvalidContent)))
    (t_InvalidContent : PySem.W.typeIn K (.ref I_InvalidContent) = some (.type "function"))
    (l_InvalidContent : K.lookup I_InvalidContent = some ⟨oc_InvalidContent, od_InvalidContent, .func (ksFn "__init__" "InvalidContent.__init__" (defArgs si_InvalidContent) (defBody si_InvalidContent) (defScope si_InvalidContent) (.ref T_InvalidContent) kV_InvalidContent dc_InvalidContent pm_InvalidContent an_InvalidContent (.ref cda_InvalidContent) ct_InvalidContent cc_InvalidContent), sl_InvalidContent⟩)
    (ld_InvalidContent : K.lookup T_InvalidContent = some ⟨ocT_InvalidContent, odT_InvalidContent, .seq #[.none] nT_InvalidContent, slT_InvalidContent⟩)
    (cd_InvalidContent : PySem.W.codeIn K (.ref cda_InvalidContent) "InvalidContent.__init__" = true)
    (cr_InvalidContent : K.lookup cda_InvalidContent = some ⟨ccl_InvalidContent, cdd_InvalidContent, .fields vs_InvalidContent, ccs_InvalidContent⟩)
    (v2_InvalidContent : vs_InvalidContent[2]? = some (.str file_InvalidContent tf_InvalidContent))
    (fl_InvalidContent : ((PySem.Challenge.rw_keptholes_k52_copies_by_all_moments.prog.main.file : Str) == file_InvalidContent) = true)
    (clc_InvalidContent : K.lookup cc_InvalidContent = some ⟨cl_InvalidContent, cld_InvalidContent, .cell (some (.ref C_InvalidContent)), csl_InvalidContent⟩)
    (al_InvalidContent : PySem.W.ks_superIn K C_InvalidContent C_InvalidContent "__init__" = some (some (.builtin "ValueError.__init__")))
    (sV_InvalidContent : PySem.W.subIn K (.ref C_InvalidContent) (.type "ValueError") = some true)
    (eC_InvalidContent : PySem.W.subIn K (.ref C_InvalidContent) (.type "BaseException") = some true)
    (sC_InvalidContent : PySem.W.mroIn K C_InvalidContent (.ref C_InvalidContent) = some true)
    (kC_InvalidContent : PySem.W.keepIn K (.ref C_InvalidContent) = true)
    (tC_InvalidContent : PySem.W.typeIn K (.ref C_InvalidContent) = some (.type "type")) :
    ∃ fd : FuncData, (∀ (s : Shared) (v : Value), BindsTo s fd ⟨[v], []⟩ [("script", v)]) ∧ ∀ base : Heap, K.In base → base.Ns mainGlobals mg → FnOk PySem.Challenge.rw_keptholes_k52_copies_by_all_moments.prog w K mg base CX0 7 fa fd ["script"] (toSp K spLaw) := by
  have e := hfa.symm.trans (PySem.W.mg_of X G a_law)
  have e2 : f_law = fa := by injection e with e; injection e with e; exact e.symm
  subst e2
  let R : Prg K mg := {
    n_bool := (PySem.W.mg_none_of X G z_bool)
    n_enumerate := (PySem.W.mg_none_of X G z_enumerate)
    n_int := (PySem.W.mg_none_of X G z_int)
    n_isinstance := (PySem.W.mg_none_of X G z_isinstance)
    n_len := (PySem.W.mg_none_of X G z_len)
    n_list := (PySem.W.mg_none_of X G z_list)
    n_max := (PySem.W.mg_none_of X G z_max)
    n_min := (PySem.W.mg_none_of X G z_min)
    n_range := (PySem.W.mg_none_of X G z_range)
    n_set := (PySem.W.mg_none_of X G z_set)
    n_sorted := (PySem.W.mg_none_of X G z_sorted)
    n_str := (PySem.W.mg_none_of X G z_str)
    n_sum := (PySem.W.mg_none_of X G z_sum)
    n_super := (PySem.W.mg_none_of X G z_super)
    n_tuple := (PySem.W.mg_none_of X G z_tuple)
    tg_SIGNS := (tg_SIGNS)
    g_SIGNS := (PySem.W.mg_of X G g_SIGNS)
    C_File := (C_File)
    mc_File := (PySem.W.mg_of X G ac_File)
    C_History := (C_History)
    mc_History := (PySem.W.mg_of X G ac_History)
    f_is_whole := (f_is_whole)
    d_is_whole := (PySem.W.fnOf "is_whole" "is_whole" (defArgs s_is_whole) (defBody s_is_whole) (defScope s_is_whole) .none kV_is_whole dc_is_whole pm_is_whole an_is_whole cd_is_whole ct_is_whole)
    F_is_whole := (fun_mk (st := s_is_whole) l_is_whole c_is_whole k_is_whole)
    b_is_whole := ((fun_mk (st := s_is_whole) l_is_whole c_is_whole k_is_whole).binds (ps := P_is_whole) fun _ _ _ _ _ _ us hl => match us, hl with | [_], _ => rfl)
    m_is_whole := (PySem.W.mg_of X G a_is_whole)
    f_check_least := (f_check_least)
    d_check_least := (PySem.W.fnOf "check_least" "check_least" (defArgs s_check_least) (defBody s_check_least) (defScope s_check_least) .none kV_check_least dc_check_least pm_check_least an_check_least cd_check_least ct_check_least)
    F_check_least := (fun_mk (st := s_check_least) l_check_least c_check_least k_check_least)
    b_check_least := ((fun_mk (st := s_check_least) l_check_least c_check_least k_check_least).binds (ps := P_check_least) fun _ _ _ _ _ _ us hl => match us, hl with | [_, _], _ => rfl)
    m_check_least := (PySem.W.mg_of X G a_check_least)
    f_check_within := (f_check_within)
    d_check_within := (PySem.W.fnOf "check_within" "check_within" (defArgs s_check_within) (defBody s_check_within) (defScope s_check_within) .none kV_check_within dc_check_within pm_check_within an_check_within cd_check_within ct_check_within)
    F_check_within := (fun_mk (st := s_check_within) l_check_within c_check_within k_check_within)
    b_check_within := ((fun_mk (st := s_check_within) l_check_within c_check_within k_check_within).binds (ps := P_check_within) fun _ _ _ _ _ _ us hl => match us, hl with | [_, _, _], _ => rfl)
    m_check_within := (PySem.W.mg_of X G a_check_within)
    f_are_cells := (f_are_cells)
    d_are_cells := (PySem.W.fnOf "are_cells" "are_cells" (defArgs s_are_cells) (defBody s_are_cells) (defScope s_are_cells) .none kV_are_cells dc_are_cells pm_are_cells an_are_cells cd_are_cells ct_are_cells)
    F_are_cells := (fun_mk (st := s_are_cells) l_are_cells c_are_cells k_are_cells)
    b_are_cells := ((fun_mk (st := s_are_cells) l_are_cells c_are_cells k_are_cells).binds (ps := P_are_cells) fun _ _ _ _ _ _ us hl => match us, hl with | [_], _ => rfl)
    m_are_cells := (PySem.W.mg_of X G a_are_cells)
    f_is_content := (f_is_content)
    d_is_content := (PySem.W.fnOf "is_content" "is_content" (defArgs s_is_content) (defBody s_is_content) (defScope s_is_content) .none kV_is_content dc_is_content pm_is_content an_is_content cd_is_content ct_is_content)
    F_is_content := (fun_mk (st := s_is_content) l_is_content c_is_content k_is_content)
    b_is_content := ((fun_mk (st := s_is_content) l_is_content c_is_content k_is_content).binds (ps := P_is_content) fun _ _ _ _ _ _ us hl => match us, hl with | [_], _ => rfl)
    m_is_content := (PySem.W.mg_of X G a_is_content)
    f_check_file := (f_check_file)
    d_check_file := (PySem.W.fnOf "check_file" "check_file" (defArgs s_check_file) (defBody s_check_file) (defScope s_check_file) .none kV_check_file dc_check_file pm_check_file an_check_file cd_check_file ct_check_file)
    F_check_file := (fun_mk (st := s_check_file) l_check_file c_check_file k_check_file)
    b_check_file := ((fun_mk (st := s_check_file) l_check_file c_check_file k_check_file).binds (ps := P_check_file) fun _ _ _ _ _ _ us hl => match us, hl with | [_], _ => rfl)
    m_check_file := (PySem.W.mg_of X G a_check_file)
    f_blocks_of := (f_blocks_of)
    d_blocks_of := (PySem.W.fnOf "blocks_of" "blocks_of" (defArgs s_blocks_of) (defBody s_blocks_of) (defScope s_blocks_of) .none kV_blocks_of dc_blocks_of pm_blocks_of an_blocks_of cd_blocks_of ct_blocks_of)
    F_blocks_of := (fun_mk (st := s_blocks_of) l_blocks_of c_blocks_of k_blocks_of)
    b_blocks_of := ((fun_mk (st := s_blocks_of) l_blocks_of c_blocks_of k_blocks_of).binds (ps := P_blocks_of) fun _ _ _ _ _ _ us hl => match us, hl with | [_, _], _ => rfl)
    m_blocks_of := (PySem.W.mg_of X G a_blocks_of)
    f_is_write := (f_is_write)
    d_is_write := (PySem.W.fnOf "is_write" "is_write" (defArgs s_is_write) (defBody s_is_write) (defScope s_is_write) .none kV_is_write dc_is_write pm_is_write an_is_write cd_is_write ct_is_write)
    F_is_write := (fun_mk (st := s_is_write) l_is_write c_is_write k_is_write)
    b_is_write := ((fun_mk (st := s_is_write) l_is_write c_is_write k_is_write).binds (ps := P_is_write) fun _ _ _ _ _ _ us hl => match us, hl with | [_, _], _ => rfl)
    m_is_write := (PySem.W.mg_of X G a_is_write)
    f_check_write := (f_check_write)
    d_check_write := (PySem.W.fnOf "check_write" "check_write" (defArgs s_check_write) (defBody s_check_write) (defScope s_check_write) .none kV_check_write dc_check_write pm_check_write an_check_write cd_check_write ct_check_write)
    F_check_write := (fun_mk (st := s_check_write) l_check_write c_check_write k_check_write)
    b_check_write := ((fun_mk (st := s_check_write) l_check_write c_check_write k_check_write).binds (ps := P_check_write) fun _ _ _ _ _ _ us hl => match us, hl with | [_, _], _ => rfl)
    m_check_write := (PySem.W.mg_of X G a_check_write)
    f_written := (f_written)
    d_written := (PySem.W.fnOf "written" "written" (defArgs s_written) (defBody s_written) (defScope s_written) .none kV_written dc_written pm_written an_written cd_written ct_written)
    F_written := (fun_mk (st := s_written) l_written c_written k_written)
    b_written := ((fun_mk (st := s_written) l_written c_written k_written).binds (ps := P_written) fun _ _ _ _ _ _ us hl => match us, hl with | [_, _, _], _ => rfl)
    m_written := (PySem.W.mg_of X G a_written)
    f_check_content := (f_check_content)
    d_check_content := (PySem.W.fnOf "check_content" "check_content" (defArgs s_check_content) (defBody s_check_content) (defScope s_check_content) .none kV_check_content dc_check_content pm_check_content an_check_content cd_check_content ct_check_content)
    F_check_content := (fun_mk (st := s_check_content) l_check_content c_check_content k_check_content)
    b_check_content := ((fun_mk (st := s_check_content) l_check_content c_check_content k_check_content).binds (ps := P_check_content) fun _ _ _ _ _ _ us hl => match us, hl with | [_, _], _ => rfl)
    m_check_content := (PySem.W.mg_of X G a_check_content)
    f_check_history := (f_check_history)
    d_check_history := (PySem.W.fnOf "check_history" "check_history" (defArgs s_check_history) (defBody s_check_history) (defScope s_check_history) .none kV_check_history dc_check_history pm_check_history an_check_history cd_check_history ct_check_history)
    F_check_history := (fun_mk (st := s_check_history) l_check_history c_check_history k_check_history)
    b_check_history := ((fun_mk (st := s_check_history) l_check_history c_check_history k_check_history).binds (ps := P_check_history) fun _ _ _ _ _ _ us hl => match us, hl with | [_], _ => rfl)
    m_check_history := (PySem.W.mg_of X G a_check_history)
    f_check_asked := (f_check_asked)
    d_check_asked := (PySem.W.fnOf "check_asked" "check_asked" (defArgs s_check_asked) (defBody s_check_asked) (defScope s_check_asked) .none kV_check_asked dc_check_asked pm_check_asked an_check_asked cd_check_asked ct_check_asked)
    F_check_asked := (fun_mk (st := s_check_asked) l_check_asked c_check_asked k_check_asked)
    b_check_asked := ((fun_mk (st := s_check_asked) l_check_asked c_check_asked k_check_asked).binds (ps := P_check_asked) fun _ _ _ _ _ _ us hl => match us, hl with | [_, _], _ => rfl)
    m_check_asked := (PySem.W.mg_of X G a_check_asked)
    f_columns_of := (f_columns_of)
    d_columns_of := (PySem.W.fnOf "columns_of" "columns_of" (defArgs s_columns_of) (defBody s_columns_of) (defScope s_columns_of) .none kV_columns_of dc_columns_of pm_columns_of an_columns_of cd_columns_of ct_columns_of)
    F_columns_of := (fun_mk (st := s_columns_of) l_columns_of c_columns_of k_columns_of)
    b_columns_of := ((fun_mk (st := s_columns_of) l_columns_of c_columns_of k_columns_of).binds (ps := P_columns_of) fun _ _ _ _ _ _ us hl => match us, hl with | [_, _], _ => rfl)
    m_columns_of := (PySem.W.mg_of X G a_columns_of)
    f_columns_along := (f_columns_along)
    d_columns_along := (PySem.W.fnOf "columns_along" "columns_along" (defArgs s_columns_along) (defBody s_columns_along) (defScope s_columns_along) .none kV_columns_along dc_columns_along pm_columns_along an_columns_along cd_columns_along ct_columns_along)
    F_columns_along := (fun_mk (st := s_columns_along) l_columns_along c_columns_along k_columns_along)
    b_columns_along := ((fun_mk (st := s_columns_along) l_columns_along c_columns_along k_columns_along).binds (ps := P_columns_along) fun _ _ _ _ _ _ us hl => match us, hl with | [_, _, _], _ => rfl)
    m_columns_along := (PySem.W.mg_of X G a_columns_along)
    f_earliest := (f_earliest)
    d_earliest := (PySem.W.fnOf "earliest" "earliest" (defArgs s_earliest) (defBody s_earliest) (defScope s_earliest) .none kV_earliest dc_earliest pm_earliest an_earliest cd_earliest ct_earliest)
    F_earliest := (fun_mk (st := s_earliest) l_earliest c_earliest k_earliest)
    b_earliest := ((fun_mk (st := s_earliest) l_earliest c_earliest k_earliest).binds (ps := P_earliest) fun _ _ _ _ _ _ us hl => match us, hl with | [_, _, _, _], _ => rfl)
    m_earliest := (PySem.W.mg_of X G a_earliest)
    f_copy_moments := (f_copy_moments)
    d_copy_moments := (PySem.W.fnOf "copy_moments" "copy_moments" (defArgs s_copy_moments) (defBody s_copy_moments) (defScope s_copy_moments) .none (.ref KD_copy_moments) dc_copy_moments pm_copy_moments an_copy_moments cd_copy_moments ct_copy_moments)
    F_copy_moments := (fun_mk (st := s_copy_moments) l_copy_moments c_copy_moments k_copy_moments)
    kb_copy_moments_3_down := (⟨fun s us ws X h1 h2 => match us, h1, ws, h2 with | [_, _, _], _, [_], _ => BindsTo.of_eq rfl, okc (trivial) (okc (trivial) (okc (trivial) (okc (trivial) (okn))))⟩)
    m_copy_moments := (PySem.W.mg_of X G a_copy_moments)
    f_late_block := (f_late_block)
    d_late_block := (PySem.W.fnOf "late_block" "late_block" (defArgs s_late_block) (defBody s_late_block) (defScope s_late_block) .none (.ref KD_late_block) dc_late_block pm_late_block an_late_block cd_late_block ct_late_block)
    F_late_block := (fun_mk (st := s_late_block) l_late_block c_late_block k_late_block)
    kb_late_block_3_down := (⟨fun s us ws X h1 h2 => match us, h1, ws, h2 with | [_, _, _], _, [_], _ => BindsTo.of_eq rfl, okc (trivial) (okc (trivial) (okc (trivial) (okc (trivial) (okn))))⟩)
    m_late_block := (PySem.W.mg_of X G a_late_block)
    f_readings := (f_readings)
    d_readings := (PySem.W.fnOf "readings" "readings" (defArgs s_readings) (defBody s_readings) (defScope s_readings) .none kV_readings dc_readings pm_readings an_readings cd_readings ct_readings)
    F_readings := (fun_mk (st := s_readings) l_readings c_readings k_readings)
    b_readings := ((fun_mk (st := s_readings) l_readings c_readings k_readings).binds (ps := P_readings) fun _ _ _ _ _ _ us hl => match us, hl with | [_, _], _ => rfl)
    m_readings := (PySem.W.mg_of X G a_readings)
    f_counts_of := (f_counts_of)
    d_counts_of := (PySem.W.fnOf "counts_of" "counts_of" (defArgs s_counts_of) (defBody s_counts_of) (defScope s_counts_of) .none kV_counts_of dc_counts_of pm_counts_of an_counts_of cd_counts_of ct_counts_of)
    F_counts_of := (fun_mk (st := s_counts_of) l_counts_of c_counts_of k_counts_of)
    b_counts_of := ((fun_mk (st := s_counts_of) l_counts_of c_counts_of k_counts_of).binds (ps := P_counts_of) fun _ _ _ _ _ _ us hl => match us, hl with | [_, _], _ => rfl)
    m_counts_of := (PySem.W.mg_of X G a_counts_of)
    f_content_of := (f_content_of)
    d_content_of := (PySem.W.fnOf "content_of" "content_of" (defArgs s_content_of) (defBody s_content_of) (defScope s_content_of) .none kV_content_of dc_content_of pm_content_of an_content_of cd_content_of ct_content_of)
    F_content_of := (fun_mk (st := s_content_of) l_content_of c_content_of k_content_of)
    b_content_of := ((fun_mk (st := s_content_of) l_content_of c_content_of k_content_of).binds (ps := P_content_of) fun _ _ _ _ _ _ us hl => match us, hl with | [_, _, _], _ => rfl)
    m_content_of := (PySem.W.mg_of X G a_content_of)
    f_number_of := (f_number_of)
    d_number_of := (PySem.W.fnOf "number_of" "number_of" (defArgs s_number_of) (defBody s_number_of) (defScope s_number_of) .none kV_number_of dc_number_of pm_number_of an_number_of cd_number_of ct_number_of)
    F_number_of := (fun_mk (st := s_number_of) l_number_of c_number_of k_number_of)
    b_number_of := ((fun_mk (st := s_number_of) l_number_of c_number_of k_number_of).binds (ps := P_number_of) fun _ _ _ _ _ _ us hl => match us, hl with | [_, _, _], _ => rfl)
    m_number_of := (PySem.W.mg_of X G a_number_of)
    f_copy_count := (f_copy_count)
    d_copy_count := (PySem.W.fnOf "copy_count" "copy_count" (defArgs s_copy_count) (defBody s_copy_count) (defScope s_copy_count) .none (.ref KD_copy_count) dc_copy_count pm_copy_count an_copy_count cd_copy_count ct_copy_count)
    F_copy_count := (fun_mk (st := s_copy_count) l_copy_count c_copy_count k_copy_count)
    kb_copy_count_2_ := (⟨fun s us ws X h1 h2 => match us, h1, ws, h2 with | [_, _], _, [], _ => binds_k X (hk1 kd_copy_count_down) ⟨_, _, _, _, _, _, rfl, rfl, rfl⟩, okc (trivial) (okc (trivial) (okc (⟨fun _ => den_bl, rfl⟩) (okn)))⟩)
    kb_copy_count_2_down := (⟨fun s us ws X h1 h2 => match us, h1, ws, h2 with | [_, _], _, [_], _ => BindsTo.of_eq rfl, okc (trivial) (okc (trivial) (okc (trivial) (okn)))⟩)
    m_copy_count := (PySem.W.mg_of X G a_copy_count)
    f_copy_at := (f_copy_at)
    d_copy_at := (PySem.W.fnOf "copy_at" "copy_at" (defArgs s_copy_at) (defBody s_copy_at) (defScope s_copy_at) .none (.ref KD_copy_at) dc_copy_at pm_copy_at an_copy_at cd_copy_at ct_copy_at)
    F_copy_at := (fun_mk (st := s_copy_at) l_copy_at c_copy_at k_copy_at)
    kb_copy_at_3_ := (⟨fun s us ws X h1 h2 => match us, h1, ws, h2 with | [_, _, _], _, [], _ => binds_k X (hk1 kd_copy_at_down) ⟨_, _, _, _, _, _, rfl, rfl, rfl⟩, okc (trivial) (okc (trivial) (okc (trivial) (okc (⟨fun _ => den_bl, rfl⟩) (okn))))⟩)
    kb_copy_at_3_down := (⟨fun s us ws X h1 h2 => match us, h1, ws, h2 with | [_, _, _], _, [_], _ => BindsTo.of_eq rfl, okc (trivial) (okc (trivial) (okc (trivial) (okc (trivial) (okn))))⟩)
    m_copy_at := (PySem.W.mg_of X G a_copy_at)
    f_copy_number := (f_copy_number)
    d_copy_number := (PySem.W.fnOf "copy_number" "copy_number" (defArgs s_copy_number) (defBody s_copy_number) (defScope s_copy_number) .none (.ref KD_copy_number) dc_copy_number pm_copy_number an_copy_number cd_copy_number ct_copy_number)
    F_copy_number := (fun_mk (st := s_copy_number) l_copy_number c_copy_number k_copy_number)
    kb_copy_number_3_down := (⟨fun s us ws X h1 h2 => match us, h1, ws, h2 with | [_, _, _], _, [_], _ => BindsTo.of_eq rfl, okc (trivial) (okc (trivial) (okc (trivial) (okc (trivial) (okn))))⟩)
    m_copy_number := (PySem.W.mg_of X G a_copy_number)
    f_law_spring := (f_law_spring)
    d_law_spring := (PySem.W.fnOf "_law_spring" "_law_spring" (defArgs s_law_spring) (defBody s_law_spring) (defScope s_law_spring) .none kV_law_spring dc_law_spring pm_law_spring an_law_spring cd_law_spring ct_law_spring)
    F_law_spring := (fun_mk (st := s_law_spring) l_law_spring c_law_spring k_law_spring)
    b_law_spring := ((fun_mk (st := s_law_spring) l_law_spring c_law_spring k_law_spring).binds (ps := P_law_spring) fun _ _ _ _ _ _ us hl => match us, hl with | [_, _], _ => rfl)
    m_law_spring := (PySem.W.mg_of X G a_law_spring)
    f_law_sip := (f_law_sip)
    d_law_sip := (PySem.W.fnOf "_law_sip" "_law_sip" (defArgs s_law_sip) (defBody s_law_sip) (defScope s_law_sip) .none kV_law_sip dc_law_sip pm_law_sip an_law_sip cd_law_sip ct_law_sip)
    F_law_sip := (fun_mk (st := s_law_sip) l_law_sip c_law_sip k_law_sip)
    b_law_sip := ((fun_mk (st := s_law_sip) l_law_sip c_law_sip k_law_sip).binds (ps := P_law_sip) fun _ _ _ _ _ _ us hl => match us, hl with | [_, _], _ => rfl)
    m_law_sip := (PySem.W.mg_of X G a_law_sip)
    f_law_cells := (f_law_cells)
    d_law_cells := (PySem.W.fnOf "_law_cells" "_law_cells" (defArgs s_law_cells) (defBody s_law_cells) (defScope s_law_cells) .none kV_law_cells dc_law_cells pm_law_cells an_law_cells cd_law_cells ct_law_cells)
    F_law_cells := (fun_mk (st := s_law_cells) l_law_cells c_law_cells k_law_cells)
    b_law_cells := ((fun_mk (st := s_law_cells) l_law_cells c_law_cells k_law_cells).binds (ps := P_law_cells) fun _ _ _ _ _ _ us hl => match us, hl with | [_, _], _ => rfl)
    m_law_cells := (PySem.W.mg_of X G a_law_cells)
    f_law_text := (f_law_text)
    d_law_text := (PySem.W.fnOf "_law_text" "_law_text" (defArgs s_law_text) (defBody s_law_text) (defScope s_law_text) .none kV_law_text dc_law_text pm_law_text an_law_text cd_law_text ct_law_text)
    F_law_text := (fun_mk (st := s_law_text) l_law_text c_law_text k_law_text)
    b_law_text := ((fun_mk (st := s_law_text) l_law_text c_law_text k_law_text).binds (ps := P_law_text) fun _ _ _ _ _ _ us hl => match us, hl with | [_, _], _ => rfl)
    m_law_text := (PySem.W.mg_of X G a_law_text)
    f_law_writes := (f_law_writes)
    d_law_writes := (PySem.W.fnOf "_law_writes" "_law_writes" (defArgs s_law_writes) (defBody s_law_writes) (defScope s_law_writes) .none kV_law_writes dc_law_writes pm_law_writes an_law_writes cd_law_writes ct_law_writes)
    F_law_writes := (fun_mk (st := s_law_writes) l_law_writes c_law_writes k_law_writes)
    b_law_writes := ((fun_mk (st := s_law_writes) l_law_writes c_law_writes k_law_writes).binds (ps := P_law_writes) fun _ _ _ _ _ _ us hl => match us, hl with | [_, _, _], _ => rfl)
    m_law_writes := (PySem.W.mg_of X G a_law_writes)
    f_law_states := (f_law_states)
    d_law_states := (PySem.W.fnOf "_law_states" "_law_states" (defArgs s_law_states) (defBody s_law_states) (defScope s_law_states) .none kV_law_states dc_law_states pm_law_states an_law_states cd_law_states ct_law_states)
    F_law_states := (fun_mk (st := s_law_states) l_law_states c_law_states k_law_states)
    b_law_states := ((fun_mk (st := s_law_states) l_law_states c_law_states k_law_states).binds (ps := P_law_states) fun _ _ _ _ _ _ us hl => match us, hl with | [_, _], _ => rfl)
    m_law_states := (PySem.W.mg_of X G a_law_states)
    f_law_blocks := (f_law_blocks)
    d_law_blocks := (PySem.W.fnOf "_law_blocks" "_law_blocks" (defArgs s_law_blocks) (defBody s_law_blocks) (defScope s_law_blocks) .none kV_law_blocks dc_law_blocks pm_law_blocks an_law_blocks cd_law_blocks ct_law_blocks)
    F_law_blocks := (fun_mk (st := s_law_blocks) l_law_blocks c_law_blocks k_law_blocks)
    b_law_blocks := ((fun_mk (st := s_law_blocks) l_law_blocks c_law_blocks k_law_blocks).binds (ps := P_law_blocks) fun _ _ _ _ _ _ us hl => match us, hl with | [_, _], _ => rfl)
    m_law_blocks := (PySem.W.mg_of X G a_law_blocks)
    f_law_early := (f_law_early)
    d_law_early := (PySem.W.fnOf "_law_early" "_law_early" (defArgs s_law_early) (defBody s_law_early) (defScope s_law_early) .none kV_law_early dc_law_early pm_law_early an_law_early cd_law_early ct_law_early)
    F_law_early := (fun_mk (st := s_law_early) l_law_early c_law_early k_law_early)
    b_law_early := ((fun_mk (st := s_law_early) l_law_early c_law_early k_law_early).binds (ps := P_law_early) fun _ _ _ _ _ _ us hl => match us, hl with | [_, _, _, _], _ => rfl)
    m_law_early := (PySem.W.mg_of X G a_law_early)
    f_law_walks := (f_law_walks)
    d_law_walks := (PySem.W.fnOf "_law_walks" "_law_walks" (defArgs s_law_walks) (defBody s_law_walks) (defScope s_law_walks) .none kV_law_walks dc_law_walks pm_law_walks an_law_walks cd_law_walks ct_law_walks)
    F_law_walks := (fun_mk (st := s_law_walks) l_law_walks c_law_walks k_law_walks)
    b_law_walks := ((fun_mk (st := s_law_walks) l_law_walks c_law_walks k_law_walks).binds (ps := P_law_walks) fun _ _ _ _ _ _ us hl => match us, hl with | [_, _], _ => rfl)
    m_law_walks := (PySem.W.mg_of X G a_law_walks)
    f_law_read := (f_law_read)
    d_law_read := (PySem.W.fnOf "_law_read" "_law_read" (defArgs s_law_read) (defBody s_law_read) (defScope s_law_read) .none kV_law_read dc_law_read pm_law_read an_law_read cd_law_read ct_law_read)
    F_law_read := (fun_mk (st := s_law_read) l_law_read c_law_read k_law_read)
    b_law_read := ((fun_mk (st := s_law_read) l_law_read c_law_read k_law_read).binds (ps := P_law_read) fun _ _ _ _ _ _ us hl => match us, hl with | [_, _, _, _], _ => rfl)
    m_law_read := (PySem.W.mg_of X G a_law_read)
    f_law_mixes := (f_law_mixes)
    d_law_mixes := (PySem.W.fnOf "_law_mixes" "_law_mixes" (defArgs s_law_mixes) (defBody s_law_mixes) (defScope s_law_mixes) .none kV_law_mixes dc_law_mixes pm_law_mixes an_law_mixes cd_law_mixes ct_law_mixes)
    F_law_mixes := (fun_mk (st := s_law_mixes) l_law_mixes c_law_mixes k_law_mixes)
    b_law_mixes := ((fun_mk (st := s_law_mixes) l_law_mixes c_law_mixes k_law_mixes).binds (ps := P_law_mixes) fun _ _ _ _ _ _ us hl => match us, hl with | [_, _], _ => rfl)
    m_law_mixes := (PySem.W.mg_of X G a_law_mixes)
    f_law_right := (f_law_right)
    d_law_right := (PySem.W.fnOf "_law_right" "_law_right" (defArgs s_law_right) (defBody s_law_right) (defScope s_law_right) .none kV_law_right dc_law_right pm_law_right an_law_right cd_law_right ct_law_right)
    F_law_right := (fun_mk (st := s_law_right) l_law_right c_law_right k_law_right)
    b_law_right := ((fun_mk (st := s_law_right) l_law_right c_law_right k_law_right).binds (ps := P_law_right) fun _ _ _ _ _ _ us hl => match us, hl with | [_, _, _, _], _ => rfl)
    m_law_right := (PySem.W.mg_of X G a_law_right)
    f_law := (f_law)
    d_law := (PySem.W.fnOf "law" "law" (defArgs s_law) (defBody s_law) (defScope s_law) .none kV_law dc_law pm_law an_law cd_law ct_law)
    F_law := (fun_mk (st := s_law) l_law c_law k_law)
    f_File_init := (f_File_init)
    d_File_init := (PySem.W.fnOf "__init__" "File.__init__" (defArgs s_File_init) (defBody s_File_init) (defScope s_File_init) (.ref T_File_init) kV_File_init dc_File_init pm_File_init an_File_init cd_File_init ct_File_init)
    F_File_init := (⟨⟨oc_File_init, od_File_init, (.ref T_File_init), kV_File_init, dc_File_init, pm_File_init, an_File_init, cd_File_init, ct_File_init, sl_File_init, rfl, l_File_init, c_File_init⟩, k_File_init⟩)
    b_File_init := (fun s us X hl => match us, hl with | [_, _], _ => BindsTo.of_defaults (T := T_File_init) rfl (X _ _ ld_File_init) rfl rfl rfl)
    f_File_content := (f_File_content)
    d_File_content := (PySem.W.fnOf "content" "File.content" (defArgs s_File_content) (defBody s_File_content) (defScope s_File_content) .none kV_File_content dc_File_content pm_File_content an_File_content cd_File_content ct_File_content)
    F_File_content := (fun_mk (st := s_File_content) l_File_content c_File_content k_File_content)
    b_File_content := ((fun_mk (st := s_File_content) l_File_content c_File_content k_File_content).binds (ps := P_File_content) fun _ _ _ _ _ _ us hl => match us, hl with | [_], _ => rfl)
    pr_File_content := pr_File_content
    V_File_content := (⟨pa_File_content, pb_File_content, pc_File_content, ⟨rs_File_content, pd_File_content⟩⟩)
    f_File_len := (f_File_len)
    d_File_len := (PySem.W.fnOf "__len__" "File.__len__" (defArgs s_File_len) (defBody s_File_len) (defScope s_File_len) .none kV_File_len dc_File_len pm_File_len an_File_len cd_File_len ct_File_len)
    F_File_len := (fun_mk (st := s_File_len) l_File_len c_File_len k_File_len)
    b_File_len := ((fun_mk (st := s_File_len) l_File_len c_File_len k_File_len).binds (ps := P_File_len) fun _ _ _ _ _ _ us hl => match us, hl with | [_], _ => rfl)
    M_File_len := (⟨a_File_len, i_File_len, k_File_len⟩)
    f_File_eq := (f_File_eq)
    d_File_eq := (PySem.W.fnOf "__eq__" "File.__eq__" (defArgs s_File_eq) (defBody s_File_eq) (defScope s_File_eq) .none kV_File_eq dc_File_eq pm_File_eq an_File_eq cd_File_eq ct_File_eq)
    F_File_eq := (fun_mk (st := s_File_eq) l_File_eq c_File_eq k_File_eq)
    b_File_eq := ((fun_mk (st := s_File_eq) l_File_eq c_File_eq k_File_eq).binds (ps := P_File_eq) fun _ _ _ _ _ _ us hl => match us, hl with | [_, _], _ => rfl)
    M_File_eq := (⟨a_File_eq, i_File_eq, k_File_eq⟩)
    f_History_init := (f_History_init)
    d_History_init := (PySem.W.fnOf "__init__" "History.__init__" (defArgs s_History_init) (defBody s_History_init) (defScope s_History_init) (.ref T_History_init) kV_History_init dc_History_init pm_History_init an_History_init cd_History_init ct_History_init)
    F_History_init := (⟨⟨oc_History_init, od_History_init, (.ref T_History_init), kV_History_init, dc_History_init, pm_History_init, an_History_init, cd_History_init, ct_History_init, sl_History_init, rfl, l_History_init, c_History_init⟩, k_History_init⟩)
    b_History_init := (fun s us X hl => match us, hl with | [_, _, _], _ => BindsTo.of_defaults (T := T_History_init) rfl (X _ _ ld_History_init) rfl rfl rfl)
    f_History_file := (f_History_file)
    d_History_file := (PySem.W.fnOf "file" "History.file" (defArgs s_History_file) (defBody s_History_file) (defScope s_History_file) .none kV_History_file dc_History_file pm_History_file an_History_file cd_History_file ct_History_file)
    F_History_file := (fun_mk (st := s_History_file) l_History_file c_History_file k_History_file)
    b_History_file := ((fun_mk (st := s_History_file) l_History_file c_History_file k_History_file).binds (ps := P_History_file) fun _ _ _ _ _ _ us hl => match us, hl with | [_], _ => rfl)
    pr_History_file := pr_History_file
    V_History_file := (⟨pa_History_file, pb_History_file, pc_History_file, ⟨rs_History_file, pd_History_file⟩⟩)
    f_History_len := (f_History_len)
    d_History_len := (PySem.W.fnOf "__len__" "History.__len__" (defArgs s_History_len) (defBody s_History_len) (defScope s_History_len) .none kV_History_len dc_History_len pm_History_len an_History_len cd_History_len ct_History_len)
    F_History_len := (fun_mk (st := s_History_len) l_History_len c_History_len k_History_len)
    b_History_len := ((fun_mk (st := s_History_len) l_History_len c_History_len k_History_len).binds (ps := P_History_len) fun _ _ _ _ _ _ us hl => match us, hl with | [_], _ => rfl)
    M_History_len := (⟨a_History_len, i_History_len, k_History_len⟩)
    f_History_eq := (f_History_eq)
    d_History_eq := (PySem.W.fnOf "__eq__" "History.__eq__" (defArgs s_History_eq) (defBody s_History_eq) (defScope s_History_eq) .none kV_History_eq dc_History_eq pm_History_eq an_History_eq cd_History_eq ct_History_eq)
    F_History_eq := (fun_mk (st := s_History_eq) l_History_eq c_History_eq k_History_eq)
    b_History_eq := ((fun_mk (st := s_History_eq) l_History_eq c_History_eq k_History_eq).binds (ps := P_History_eq) fun _ _ _ _ _ _ us hl => match us, hl with | [_, _], _ => rfl)
    M_History_eq := (⟨a_History_eq, i_History_eq, k_History_eq⟩)
    f_History_states := (f_History_states)
    d_History_states := (PySem.W.fnOf "states" "History.states" (defArgs s_History_states) (defBody s_History_states) (defScope s_History_states) .none kV_History_states dc_History_states pm_History_states an_History_states cd_History_states ct_History_states)
    F_History_states := (fun_mk (st := s_History_states) l_History_states c_History_states k_History_states)
    b_History_states := ((fun_mk (st := s_History_states) l_History_states c_History_states k_History_states).binds (ps := P_History_states) fun _ _ _ _ _ _ us hl => match us, hl with | [_], _ => rfl)
    M_History_states := (⟨a_History_states, i_History_states, k_History_states⟩)
    L_File := (⟨⟨pg_File, hd_File, po_File, sa_File⟩, ha_File, ohn, otk, mr_File⟩)
    K_File := (⟨mk_File, a_File_init, i_File_init, kc_File⟩)
    A_File_row := (na_File_row)
    L_History := (⟨⟨pg_History, hd_History, po_History, sa_History⟩, ha_History, ohn, otk, mr_History⟩)
    K_History := (⟨mk_History, a_History_init, i_History_init, kc_History⟩)
    A_History_start := (na_History_start)
    A_History_rows := (na_History_rows)
    s_File_File := (kit_self)
    s_History_History := (kit_self)
    C_InvalidFile := (C_InvalidFile)
    I_InvalidFile := (I_InvalidFile)
    mc_InvalidFile := (PySem.W.mg_of X G ac_InvalidFile)
    S_InvalidFile := ({ T := ⟨⟨nm_InvalidFile, q_InvalidFile, NN_InvalidFile, bs_InvalidFile, _, sn_InvalidFile, sub_InvalidFile, ab_InvalidFile, col_InvalidFile, dd_InvalidFile, m0_InvalidFile, m1_InvalidFile, m2_InvalidFile, m3_InvalidFile, m5_InvalidFile, xL_InvalidFile, by first | rfl | decide +kernel⟩, sa_InvalidFile, eC_InvalidFile, tC_InvalidFile, kC_InvalidFile⟩, iC := i_InvalidFile, tI := t_InvalidFile, nf := nb_InvalidFile, al := al_InvalidFile, sV := sV_InvalidFile, sC := sC_InvalidFile, op := zop, tp := by decide +kernel, ne := by decide, nd := by decide, fn := ⟨oc_InvalidFile, od_InvalidFile, sl_InvalidFile, "__init__", "InvalidFile.__init__", defArgs si_InvalidFile, defScope si_InvalidFile, .ref T_InvalidFile, kV_InvalidFile, dc_InvalidFile, pm_InvalidFile, an_InvalidFile, cda_InvalidFile, ct_InvalidFile, cc_InvalidFile, ⟨10, 8, 10, 13⟩, ⟨10, 8, 10, 15⟩, ⟨10, 8, 10, 24⟩, ⟨10, 25, 10, 30⟩, ⟨10, 8, 10, 31⟩, ⟨10, 8, 10, 31⟩, ⟨11, 8, 11, 12⟩, ⟨11, 8, 11, 18⟩, ⟨11, 21, 11, 26⟩, ⟨11, 8, 11, 26⟩, { arg := "self", annotation := none, pos := ⟨9, 17, 9, 21⟩ }, ccl_InvalidFile, cdd_InvalidFile, vs_InvalidFile, ccs_InvalidFile, file_InvalidFile, tf_InvalidFile, cl_InvalidFile, cld_InvalidFile, csl_InvalidFile, l_InvalidFile, cd_InvalidFile, by rfl, by rfl, by rfl, by rfl, by rfl, by decide +kernel, by rfl, by rfl, by rfl, by rfl, cr_InvalidFile, v2_InvalidFile, fl_InvalidFile, clc_InvalidFile, (fun s us X hl => match us, hl with | [_, _], _ => BindsTo.of_defaults (T := T_InvalidFile) rfl (X _ _ ld_InvalidFile) rfl rfl rfl), fun _ => ⟨_, rfl⟩⟩ })
    C_InvalidNumber := (C_InvalidNumber)
    I_InvalidNumber := (I_InvalidNumber)
    mc_InvalidNumber := (PySem.W.mg_of X G ac_InvalidNumber)
    S_InvalidNumber := ({ T := ⟨⟨nm_InvalidNumber, q_InvalidNumber, NN_InvalidNumber, bs_InvalidNumber, _, sn_InvalidNumber, sub_InvalidNumber, ab_InvalidNumber, col_InvalidNumber, dd_InvalidNumber, m0_InvalidNumber, m1_InvalidNumber, m2_InvalidNumber, m3_InvalidNumber, m5_InvalidNumber, xL_InvalidNumber, by first | rfl | decide +kernel⟩, sa_InvalidNumber, eC_InvalidNumber, tC_InvalidNumber, kC_InvalidNumber⟩, iC := i_InvalidNumber, tI := t_InvalidNumber, nf := nb_InvalidNumber, al := al_InvalidNumber, sV := sV_InvalidNumber, sC := sC_InvalidNumber, op := zop, tp := by decide +kernel, ne := by decide, nd := by decide, fn := ⟨oc_InvalidNumber, od_InvalidNumber, sl_InvalidNumber, "__init__", "InvalidNumber.__init__", defArgs si_InvalidNumber, defScope si_InvalidNumber, .ref T_InvalidNumber, kV_InvalidNumber, dc_InvalidNumber, pm_InvalidNumber, an_InvalidNumber, cda_InvalidNumber, ct_InvalidNumber, cc_InvalidNumber, ⟨15, 8, 15, 13⟩, ⟨15, 8, 15, 15⟩, ⟨15, 8, 15, 24⟩, ⟨15, 25, 15, 30⟩, ⟨15, 8, 15, 31⟩, ⟨15, 8, 15, 31⟩, ⟨16, 8, 16, 12⟩, ⟨16, 8, 16, 18⟩, ⟨16, 21, 16, 26⟩, ⟨16, 8, 16, 26⟩, { arg := "self", annotation := none, pos := ⟨14, 17, 14, 21⟩ }, ccl_InvalidNumber, cdd_InvalidNumber, vs_InvalidNumber, ccs_InvalidNumber, file_InvalidNumber, tf_InvalidNumber, cl_InvalidNumber, cld_InvalidNumber, csl_InvalidNumber, l_InvalidNumber, cd_InvalidNumber, by rfl, by rfl, by rfl, by rfl, by rfl, by decide +kernel, by rfl, by rfl, by rfl, by rfl, cr_InvalidNumber, v2_InvalidNumber, fl_InvalidNumber, clc_InvalidNumber, (fun s us X hl => match us, hl with | [_, _], _ => BindsTo.of_defaults (T := T_InvalidNumber) rfl (X _ _ ld_InvalidNumber) rfl rfl rfl), fun _ => ⟨_, rfl⟩⟩ })
    C_InvalidList := (C_InvalidList)
    C_InvalidWrite := (C_InvalidWrite)
    I_InvalidWrite := (I_InvalidWrite)
    mc_InvalidWrite := (PySem.W.mg_of X G ac_InvalidWrite)
    S_InvalidWrite := ({ T := ⟨⟨nm_InvalidWrite, q_InvalidWrite, NN_InvalidWrite, bs_InvalidWrite, _, sn_InvalidWrite, sub_InvalidWrite, ab_InvalidWrite, col_InvalidWrite, dd_InvalidWrite, m0_InvalidWrite, m1_InvalidWrite, m2_InvalidWrite, m3_InvalidWrite, m5_InvalidWrite, xL_InvalidWrite, by first | rfl | decide +kernel⟩, sa_InvalidWrite, eC_InvalidWrite, tC_InvalidWrite, kC_InvalidWrite⟩, iC := i_InvalidWrite, tI := t_InvalidWrite, nf := nb_InvalidWrite, al := al_InvalidWrite, sV := sV_InvalidWrite, sC := sC_InvalidWrite, op := zop, tp := by decide +kernel, ne := by decide, nd := by decide, fn := ⟨oc_InvalidWrite, od_InvalidWrite, sl_InvalidWrite, "__init__", "InvalidWrite.__init__", defArgs si_InvalidWrite, defScope si_InvalidWrite, .ref T_InvalidWrite, kV_InvalidWrite, dc_InvalidWrite, pm_InvalidWrite, an_InvalidWrite, cda_InvalidWrite, ct_InvalidWrite, cc_InvalidWrite, ⟨25, 8, 25, 13⟩, ⟨25, 8, 25, 15⟩, ⟨25, 8, 25, 24⟩, ⟨25, 25, 25, 30⟩, ⟨25, 8, 25, 31⟩, ⟨25, 8, 25, 31⟩, ⟨26, 8, 26, 12⟩, ⟨26, 8, 26, 18⟩, ⟨26, 21, 26, 26⟩, ⟨26, 8, 26, 26⟩, { arg := "self", annotation := none, pos := ⟨24, 17, 24, 21⟩ }, ccl_InvalidWrite, cdd_InvalidWrite, vs_InvalidWrite, ccs_InvalidWrite, file_InvalidWrite, tf_InvalidWrite, cl_InvalidWrite, cld_InvalidWrite, csl_InvalidWrite, l_InvalidWrite, cd_InvalidWrite, by rfl, by rfl, by rfl, by rfl, by rfl, by decide +kernel, by rfl, by rfl, by rfl, by rfl, cr_InvalidWrite, v2_InvalidWrite, fl_InvalidWrite, clc_InvalidWrite, (fun s us X hl => match us, hl with | [_, _], _ => BindsTo.of_defaults (T := T_InvalidWrite) rfl (X _ _ ld_InvalidWrite) rfl rfl rfl), fun _ => ⟨_, rfl⟩⟩ })
    C_InvalidHistory := (C_InvalidHistory)
    C_InvalidContent := (C_InvalidContent)
    I_InvalidContent := (I_InvalidContent)
    mc_InvalidContent := (PySem.W.mg_of X G ac_InvalidContent)
    S_InvalidContent := ({ T := ⟨⟨nm_InvalidContent, q_InvalidContent, NN_InvalidContent, bs_InvalidContent, _, sn_InvalidContent, sub_InvalidContent, ab_InvalidContent, col_InvalidContent, dd_InvalidContent, m0_InvalidContent, m1_InvalidContent, m2_InvalidContent, m3_InvalidContent, m5_InvalidContent, xL_InvalidContent, by first | rfl | decide +kernel⟩, sa_InvalidContent, eC_InvalidContent, tC_InvalidContent, kC_InvalidContent⟩, iC := i_InvalidContent, tI := t_InvalidContent, nf := nb_InvalidContent, al := al_InvalidContent, sV := sV_InvalidContent, sC := sC_InvalidContent, op := zop, tp := by decide +kernel, ne := by decide, nd := by decide, fn := ⟨oc_InvalidContent, od_InvalidContent, sl_InvalidContent, "__init__", "InvalidContent.__init__", defArgs si_InvalidContent, defScope si_InvalidContent, .ref T_InvalidContent, kV_InvalidContent, dc_InvalidContent, pm_InvalidContent, an_InvalidContent, cda_InvalidContent, ct_InvalidContent, cc_InvalidContent, ⟨35, 8, 35, 13⟩, ⟨35, 8, 35, 15⟩, ⟨35, 8, 35, 24⟩, ⟨35, 25, 35, 30⟩, ⟨35, 8, 35, 31⟩, ⟨35, 8, 35, 31⟩, ⟨36, 8, 36, 12⟩, ⟨36, 8, 36, 18⟩, ⟨36, 21, 36, 26⟩, ⟨36, 8, 36, 26⟩, { arg := "self", annotation := none, pos := ⟨34, 17, 34, 21⟩ }, ccl_InvalidContent, cdd_InvalidContent, vs_InvalidContent, ccs_InvalidContent, file_InvalidContent, tf_InvalidContent, cl_InvalidContent, cld_InvalidContent, csl_InvalidContent, l_InvalidContent, cd_InvalidContent, by rfl, by rfl, by rfl, by rfl, by rfl, by decide +kernel, by rfl, by rfl, by rfl, by rfl, cr_InvalidContent, v2_InvalidContent, fl_InvalidContent, clc_InvalidContent, (fun s us X hl => match us, hl with | [_, _], _ => BindsTo.of_defaults (T := T_InvalidContent) rfl (X _ _ ld_InvalidContent) rfl rfl rfl), fun _ => ⟨_, rfl⟩⟩ }) }
  exact ⟨R.d_law, fun s v => .of_eq rfl, fun base _ _ => ok_law R⟩
theorem walk {q : Program} {loose : List Str} {XP : (Str → Option Value) → Heap → Prop} {YP : World → Heap → Prop} {d : DefRec} {K : Params → Frag} (hdf : d.params.defaults = [])
    (hY : ∀ (w : World) (h : Heap), YP w h → (K w.params).In h)
    (F : ∀ (w : World) (mg : Str → Option Value) (fa : Addr) (h : Heap), (K w.params).In h → h.Ns mainGlobals mg → mg d.name = some (.ref fa) →
      ∃ fd : FuncData, (∀ (s : Shared) (u : Value), BindsTo s fd ⟨[u], []⟩ [("script", u)]) ∧ ∀ base : Heap, (K w.params).In base → base.Ns mainGlobals mg → FnOk PySem.Challenge.rw_keptholes_k52_copies_by_all_moments.prog w (K w.params) mg base CX0 7 fa fd ["script"] (toSp (K w.params) spLaw)) :
    PySem.W.WalkO q loose XP YP PySem.Challenge.rw_keptholes_k52_copies_by_all_moments.row.toRowW d [] (fun f vs => PySem.call f vs) :=
  L2.walk_of (l := PySem.Challenge.rw_keptholes_k52_copies_by_all_moments) (n := 63) (k := 7) (x := "script") (CX := fun _ => CX0) (sp := fun w => toSp (K w.params) spLaw) rfl (by decide) hdf ⟨rfl, by decide, by decide⟩ hY F
    (fun w H a ns hl _ hS => law_sp hl hS) fun _ _ _ _ _ z => z
end Kh
open PySem PySem.W PyProof.Rows in
set_option maxRecDepth 100000 in
set_option maxHeartbeats 0 in
theorem PySem.Challenge.cw_keptholes_k52_copies_by_all_moments_holds : PySem.Challenge.rw_keptholes_k52_copies_by_all_moments.Holds := by
  w_on; o_law; k_headL; (case hw => w_witness2)
  as_aux_lemma =>
    k_fill
    refine Kh.walk rfl (fun w h Y => PySem.W.kIn_of Y) ?F
    case F =>
      intro w mg fa h KX G hmg
      refine' Kh.all_mk KX G hmg ?z_bool ?z_enumerate ?z_int ?z_isinstance ?z_len ?z_list ?z_max ?z_min ?z_range ?z_set ?z_sorted ?z_str ?z_sum ?z_super ?z_tuple ?g_SIGNS ?ac_File ?ac_History ?a_is_whole ?l_is_whole ?c_is_whole ?k_is_whole ?a_check_least ?l_check_least ?c_check_least ?k_check_least ?a_check_within ?l_check_within ?c_check_within ?k_check_within ?a_are_cells ?l_are_cells ?c_are_cells ?k_are_cells ?a_is_content ?l_is_content ?c_is_content ?k_is_content ?a_check_file ?l_check_file ?c_check_file ?k_check_file ?a_blocks_of ?l_blocks_of ?c_blocks_of ?k_blocks_of ?a_is_write ?l_is_write ?c_is_write ?k_is_write ?a_check_write ?l_check_write ?c_check_write ?k_check_write ?a_written ?l_written ?c_written ?k_written ?a_check_content ?l_check_content ?c_check_content ?k_check_content ?a_check_history ?l_check_history ?c_check_history ?k_check_history ?a_check_asked ?l_check_asked ?c_check_asked ?k_check_asked ?a_columns_of ?l_columns_of ?c_columns_of ?k_columns_of ?a_columns_along ?l_columns_along ?c_columns_along ?k_columns_along ?a_earliest ?l_earliest ?c_earliest ?k_earliest ?a_copy_moments ?l_copy_moments ?c_copy_moments ?k_copy_moments ?a_late_block ?l_late_block ?c_late_block ?k_late_block ?a_readings ?l_readings ?c_readings ?k_readings ?a_counts_of ?l_counts_of ?c_counts_of ?k_counts_of ?a_content_of ?l_content_of ?c_content_of ?k_content_of ?a_number_of ?l_number_of ?c_number_of ?k_number_of ?a_copy_count ?l_copy_count ?c_copy_count ?k_copy_count ?kd_copy_count_down ?a_copy_at ?l_copy_at ?c_copy_at ?k_copy_at ?kd_copy_at_down ?a_copy_number ?l_copy_number ?c_copy_number ?k_copy_number ?a_law_spring ?l_law_spring ?c_law_spring ?k_law_spring ?a_law_sip ?l_law_sip ?c_law_sip ?k_law_sip ?a_law_cells ?l_law_cells ?c_law_cells ?k_law_cells ?a_law_text ?l_law_text ?c_law_text ?k_law_text ?a_law_writes ?l_law_writes ?c_law_writes ?k_law_writes ?a_law_states ?l_law_states ?c_law_states ?k_law_states ?a_law_blocks ?l_law_blocks ?c_law_blocks ?k_law_blocks ?a_law_early ?l_law_early ?c_law_early ?k_law_early ?a_law_walks ?l_law_walks ?c_law_walks ?k_law_walks ?a_law_read ?l_law_read ?c_law_read ?k_law_read ?a_law_mixes ?l_law_mixes ?c_law_mixes ?k_law_mixes ?a_law_right ?l_law_right ?c_law_right ?k_law_right ?a_law ?l_law ?c_law ?k_law ?a_File_init ?i_File_init ?l_File_init ?c_File_init ?k_File_init ?ld_File_init ?pa_File_content ?pb_File_content ?pc_File_content ?pd_File_content ?l_File_content ?c_File_content ?k_File_content ?a_File_len ?i_File_len ?l_File_len ?c_File_len ?k_File_len ?a_File_eq ?i_File_eq ?l_File_eq ?c_File_eq ?k_File_eq ?a_History_init ?i_History_init ?l_History_init ?c_History_init ?k_History_init ?ld_History_init ?pa_History_file ?pb_History_file ?pc_History_file ?pd_History_file ?l_History_file ?c_History_file ?k_History_file ?a_History_len ?i_History_len ?l_History_len ?c_History_len ?k_History_len ?a_History_eq ?i_History_eq ?l_History_eq ?c_History_eq ?k_History_eq ?a_History_states ?i_History_states ?l_History_states ?c_History_states ?k_History_states ?ohn ?otk ?pg_File ?hd_File ?po_File ?sa_File ?ha_File ?mr_File ?mk_File ?kc_File ?na_File_row ?pg_History ?hd_History ?po_History ?sa_History ?ha_History ?mr_History ?mk_History ?kc_History ?na_History_start ?na_History_rows ?zop ?ac_InvalidFile ?ac_HoleError ?xL_InvalidFile ?sa_InvalidFile ?nb_InvalidFile ?i_InvalidFile ?t_InvalidFile ?l_InvalidFile ?ld_InvalidFile ?cd_InvalidFile ?cr_InvalidFile ?v2_InvalidFile ?fl_InvalidFile ?clc_InvalidFile ?al_InvalidFile ?sV_InvalidFile ?eC_InvalidFile ?sC_InvalidFile ?kC_InvalidFile ?tC_InvalidFile ?ac_InvalidNumber ?xL_InvalidNumber ?sa_InvalidNumber ?nb_InvalidNumber ?i_InvalidNumber ?t_InvalidNumber ?l_InvalidNumber ?ld_InvalidNumber ?cd_InvalidNumber ?cr_InvalidNumber ?v2_InvalidNumber ?fl_InvalidNumber ?clc_InvalidNumber ?al_InvalidNumber ?sV_InvalidNumber ?eC_InvalidNumber ?sC_InvalidNumber ?kC_InvalidNumber ?tC_InvalidNumber ?ac_InvalidList ?ac_InvalidWrite ?xL_InvalidWrite ?sa_InvalidWrite ?nb_InvalidWrite ?i_InvalidWrite ?t_InvalidWrite ?l_InvalidWrite ?ld_InvalidWrite ?cd_InvalidWrite ?cr_InvalidWrite ?v2_InvalidWrite ?fl_InvalidWrite ?clc_InvalidWrite ?al_InvalidWrite ?sV_InvalidWrite ?eC_InvalidWrite ?sC_InvalidWrite ?kC_InvalidWrite ?tC_InvalidWrite ?ac_InvalidHistory ?ac_InvalidContent ?xL_InvalidContent ?sa_InvalidContent ?nb_InvalidContent ?i_InvalidContent ?t_InvalidContent ?l_InvalidContent ?ld_InvalidContent ?cd_InvalidContent ?cr_InvalidContent ?v2_InvalidContent ?fl_InvalidContent ?clc_InvalidContent ?al_InvalidContent ?sV_InvalidContent ?eC_InvalidContent ?sC_InvalidContent ?kC_InvalidContent ?tC_InvalidContent

      (case z_bool => k_is)
      (case z_enumerate => k_is)
      (case z_int => k_is)
      (case z_isinstance => k_is)
      (case z_len => k_is)
      (case z_list => k_is)
      (case z_max => k_is)
      (case z_min => k_is)
      (case z_range => k_is)
      (case z_set => k_is)
      (case z_sorted => k_is)
      (case z_str => k_is)
      (case z_sum => k_is)
      (case z_super => k_is)
      (case z_tuple => k_is)
      (case g_SIGNS => k_is)
      (case ac_File => k_is)
      (case ac_History => k_is)
      (case a_is_whole => k_is)
      (case l_is_whole => k_is)
      (case c_is_whole => k_is)
      (case k_is_whole => k_is)
      (case a_check_least => k_is)
      (case l_check_least => k_is)
      (case c_check_least => k_is)
      (case k_check_least => k_is)
      (case a_check_within => k_is)
      (case l_check_within => k_is)
      (case c_check_within => k_is)
      (case k_check_within => k_is)
      (case a_are_cells => k_is)
      (case l_are_cells => k_is)
      (case c_are_cells => k_is)
      (case k_are_cells => k_is)
      (case a_is_content => k_is)
      (case l_is_content => k_is)
      (case c_is_content => k_is)
      (case k_is_content => k_is)
      (case a_check_file => k_is)
      (case l_check_file => k_is)
      (case c_check_file => k_is)
      (case k_check_file => k_is)
      (case a_blocks_of => k_is)
      (case l_blocks_of => k_is)
      (case c_blocks_of => k_is)
      (case k_blocks_of => k_is)
      (case a_is_write => k_is)
      (case l_is_write => k_is)
      (case c_is_write => k_is)
      (case k_is_write => k_is)
      (case a_check_write => k_is)
      (case l_check_write => k_is)
      (case c_check_write => k_is)
      (case k_check_write => k_is)
      (case a_written => k_is)
      (case l_written => k_is)
      (case c_written => k_is)
      (case k_written => k_is)
      (case a_check_content => k_is)
      (case l_check_content => k_is)
      (case c_check_content => k_is)
      (case k_check_content => k_is)
      (case a_check_history => k_is)
      (case l_check_history => k_is)
      (case c_check_history => k_is)
      (case k_check_history => k_is)
      (case a_check_asked => k_is)
      (case l_check_asked => k_is)
      (case c_check_asked => k_is)
      (case k_check_asked => k_is)
      (case a_columns_of => k_is)
      (case l_columns_of => k_is)
      (case c_columns_of => k_is)
      (case k_columns_of => k_is)
      (case a_columns_along => k_is)
      (case l_columns_along => k_is)
      (case c_columns_along => k_is)
      (case k_columns_along => k_is)
      (case a_earliest => k_is)
      (case l_earliest => k_is)
      (case c_earliest => k_is)
      (case k_earliest => k_is)
      (case a_copy_moments => k_is)
      (case l_copy_moments => k_is)
      (case c_copy_moments => k_is)
      (case k_copy_moments => k_is)
      (case a_late_block => k_is)
      (case l_late_block => k_is)
      (case c_late_block => k_is)
      (case k_late_block => k_is)
      (case a_readings => k_is)
      (case l_readings => k_is)
      (case c_readings => k_is)
      (case k_readings => k_is)
      (case a_counts_of => k_is)
      (case l_counts_of => k_is)
      (case c_counts_of => k_is)
      (case k_counts_of => k_is)
      (case a_content_of => k_is)
      (case l_content_of => k_is)
      (case c_content_of => k_is)
      (case k_content_of => k_is)
      (case a_number_of => k_is)
      (case l_number_of => k_is)
      (case c_number_of => k_is)
      (case k_number_of => k_is)
      (case a_copy_count => k_is)
      (case l_copy_count => k_is)
      (case c_copy_count => k_is)
      (case k_copy_count => k_is)
      (case kd_copy_count_down => k_is)
      (case a_copy_at => k_is)
      (case l_copy_at => k_is)
      (case c_copy_at => k_is)
      (case k_copy_at => k_is)
      (case kd_copy_at_down => k_is)
      (case a_copy_number => k_is)
      (case l_copy_number => k_is)
      (case c_copy_number => k_is)
      (case k_copy_number => k_is)
      (case a_law_spring => k_is)
      (case l_law_spring => k_is)
      (case c_law_spring => k_is)
      (case k_law_spring => k_is)
      (case a_law_sip => k_is)
      (case l_law_sip => k_is)
      (case c_law_sip => k_is)
      (case k_law_sip => k_is)
      (case a_law_cells => k_is)
      (case l_law_cells => k_is)
      (case c_law_cells => k_is)
      (case k_law_cells => k_is)
      (case a_law_text => k_is)
      (case l_law_text => k_is)
      (case c_law_text => k_is)
      (case k_law_text => k_is)
      (case a_law_writes => k_is)
      (case l_law_writes => k_is)
      (case c_law_writes => k_is)
      (case k_law_writes => k_is)
      (case a_law_states => k_is)
      (case l_law_states => k_is)
      (case c_law_states => k_is)
      (case k_law_states => k_is)
      (case a_law_blocks => k_is)
      (case l_law_blocks => k_is)
      (case c_law_blocks => k_is)
      (case k_law_blocks => k_is)
      (case a_law_early => k_is)
      (case l_law_early => k_is)
      (case c_law_early => k_is)
      (case k_law_early => k_is)
      (case a_law_walks => k_is)
      (case l_law_walks => k_is)
      (case c_law_walks => k_is)
      (case k_law_walks => k_is)
      (case a_law_read => k_is)
      (case l_law_read => k_is)
      (case c_law_read => k_is)
      (case k_law_read => k_is)
      (case a_law_mixes => k_is)
      (case l_law_mixes => k_is)
      (case c_law_mixes => k_is)
      (case k_law_mixes => k_is)
      (case a_law_right => k_is)
      (case l_law_right => k_is)
      (case c_law_right => k_is)
      (case k_law_right => k_is)
      (case a_law => k_is)
      (case l_law => k_is)
      (case c_law => k_is)
      (case k_law => k_is)
      (case a_File_init => k_is)
      (case i_File_init => k_is)
      (case l_File_init => k_is)
      (case c_File_init => k_is)
      (case k_File_init => k_is)
      (case ld_File_init => k_is)
      (case pa_File_content => k_is)
      (case pb_File_content => k_is)
      (case pc_File_content => k_is)
      (case pd_File_content => k_is)
      (case l_File_content => k_is)
      (case c_File_content => k_is)
      (case k_File_content => k_is)
      (case a_File_len => k_is)
      (case i_File_len => k_is)
      (case l_File_len => k_is)
      (case c_File_len => k_is)
      (case k_File_len => k_is)
      (case a_File_eq => k_is)
      (case i_File_eq => k_is)
      (case l_File_eq => k_is)
      (case c_File_eq => k_is)
      (case k_File_eq => k_is)
      (case a_History_init => k_is)
      (case i_History_init => k_is)
      (case l_History_init => k_is)
      (case c_History_init => k_is)
      (case k_History_init => k_is)
      (case ld_History_init => k_is)
      (case pa_History_file => k_is)
      (case pb_History_file => k_is)
      (case pc_History_file => k_is)
      (case pd_History_file => k_is)
      (case l_History_file => k_is)
      (case c_History_file => k_is)
      (case k_History_file => k_is)
      (case a_History_len => k_is)
      (case i_History_len => k_is)
      (case l_History_len => k_is)
      (case c_History_len => k_is)
      (case k_History_len => k_is)
      (case a_History_eq => k_is)
      (case i_History_eq => k_is)
      (case l_History_eq => k_is)
      (case c_History_eq => k_is)
      (case k_History_eq => k_is)
      (case a_History_states => k_is)
      (case i_History_states => k_is)
      (case l_History_states => k_is)
      (case c_History_states => k_is)
      (case k_History_states => k_is)
      (case ohn => first | k_is | rfl | kernel_rfl)
      (case otk => first | k_is | rfl | kernel_rfl)
      (case pg_File => k_is)
      (case hd_File => k_is)
      (case po_File => k_is)
      (case sa_File => k_is)
      (case ha_File => k_is)
      (case mr_File => first | k_is | kernel_rfl | rfl)
      (case mk_File => k_is)
      (case kc_File => k_is)
      (case na_File_row => k_is)
      (case pg_History => k_is)
      (case hd_History => k_is)
      (case po_History => k_is)
      (case sa_History => k_is)
      (case ha_History => k_is)
      (case mr_History => first | k_is | kernel_rfl | rfl)
      (case mk_History => k_is)
      (case kc_History => k_is)
      (case na_History_start => k_is)
      (case na_History_rows => k_is)
      (case zop => k_is)
      (case ac_InvalidFile => k_is)
      (case ac_HoleError => k_is)
      (case xL_InvalidFile => k_is)
      (case sa_InvalidFile => k_is)
      (case nb_InvalidFile => k_is)
      (case i_InvalidFile => k_is)
      (case t_InvalidFile => k_is)
      (case l_InvalidFile => k_is)
      (case ld_InvalidFile => k_is)
      (case cd_InvalidFile => k_is)
      (case cr_InvalidFile => k_is)
      (case v2_InvalidFile => rfl)
      (case fl_InvalidFile => first | rfl | decide +kernel)
      (case clc_InvalidFile => k_is)
      (case al_InvalidFile => first | k_is | ks_is | kernel_rfl)
      (case sV_InvalidFile => k_is)
      (case eC_InvalidFile => k_is)
      (case sC_InvalidFile => first | k_is | kernel_rfl | rfl)
      (case kC_InvalidFile => k_is)
      (case tC_InvalidFile => k_is)
      (case ac_InvalidNumber => k_is)
      (case xL_InvalidNumber => k_is)
      (case sa_InvalidNumber => k_is)
      (case nb_InvalidNumber => k_is)
      (case i_InvalidNumber => k_is)
      (case t_InvalidNumber => k_is)
      (case l_InvalidNumber => k_is)
      (case ld_InvalidNumber => k_is)
      (case cd_InvalidNumber => k_is)
      (case cr_InvalidNumber => k_is)
      (case v2_InvalidNumber => rfl)
      (case fl_InvalidNumber => first | rfl | decide +kernel)
      (case clc_InvalidNumber => k_is)
      (case al_InvalidNumber => first | k_is | ks_is | kernel_rfl)
      (case sV_InvalidNumber => k_is)
      (case eC_InvalidNumber => k_is)
      (case sC_InvalidNumber => first | k_is | kernel_rfl | rfl)
      (case kC_InvalidNumber => k_is)
      (case tC_InvalidNumber => k_is)
      (case ac_InvalidList => k_is)
      (case ac_InvalidWrite => k_is)
      (case xL_InvalidWrite => k_is)
      (case sa_InvalidWrite => k_is)
      (case nb_InvalidWrite => k_is)
      (case i_InvalidWrite => k_is)
      (case t_InvalidWrite => k_is)
      (case l_InvalidWrite => k_is)
      (case ld_InvalidWrite => k_is)
      (case cd_InvalidWrite => k_is)
      (case cr_InvalidWrite => k_is)
      (case v2_InvalidWrite => rfl)
      (case fl_InvalidWrite => first | rfl | decide +kernel)
      (case clc_InvalidWrite => k_is)
      (case al_InvalidWrite => first | k_is | ks_is | kernel_rfl)
      (case sV_InvalidWrite => k_is)
      (case eC_InvalidWrite => k_is)
      (case sC_InvalidWrite => first | k_is | kernel_rfl | rfl)
      (case kC_InvalidWrite => k_is)
      (case tC_InvalidWrite => k_is)
      (case ac_InvalidHistory => k_is)
      (case ac_InvalidContent => k_is)
      (case xL_InvalidContent => k_is)
      (case sa_InvalidContent => k_is)
      (case nb_InvalidContent => k_is)
      (case i_InvalidContent => k_is)
      (case t_InvalidContent => k_is)
      (case l_InvalidContent => k_is)
      (case ld_InvalidContent => k_is)
      (case cd_InvalidContent => k_is)
      (case cr_InvalidContent => k_is)
      (case v2_InvalidContent => rfl)
      (case fl_InvalidContent => first | rfl | decide +kernel)
      (case clc_InvalidContent => k_is)
      (case al_InvalidContent => first | k_is | ks_is | kernel_rfl)
      (case sV_InvalidContent => k_is)
      (case eC_InvalidContent => k_is)
      (case sC_InvalidContent => first | k_is | kernel_rfl | rfl)
      (case kC_InvalidContent => k_is)
      (case tC_InvalidContent => k_is)


