import PyProof.Rows.All
import Wide.All
import OpenK.AllK
import Wide.FinOn
import HandS.ForMost
import HandS.ForExc
import HandS.Property
import HandS.CallSlots
import HandS.Walk
import HandS.IsInst
import HandS.Wide
import HandS.WideBits
import HandS.ReplaceLit
import HandS.ReplaceList
import HandS.ExcInit
import HandS.ExcField
import HandS.ExcSuper
import KE.KExcSuper
import HandS.Style
import HandS.Dict
import HandS.More
import PyProof.NeKinds
import HandS.Text
import HandS.StrMore
import PyProof.Draws
import PyProof.EnumMake
import OpenK.KOps
import OpenK.KMeth
import KE.KOpsOwn
import KE.KFmtOwn
import PyProof.FactsAll.object_2
import PyProof.SliceStr2
import HandS.IterVal
import KE.KOwnIter
import PyProof.ListStr
import HandS.TryMany
import PyProof.LongRange
import HandS.TupAny
import HandS.TupSets
import HandS.OwnEq
import HandS.Defaults
import HandS.Deep
import HandS.Conv
import HandS.SortInts
import KE.SortData
import HandS.Zip
import HandS.SetFor
import HandS.Strs
import PySem.Challenge.RW_keptholes_k81_texts_that_are_none
import KE.OsRunLaw
set_option Elab.async false
set_option linter.all false
set_option maxRecDepth 100000
set_option maxHeartbeats 1000000
namespace Kh
open PySem PySem.Spec L2

/-! ### data as trees -/
inductive Dat where
  | non | bl (b : Bool) | int (i : Int) | str (s : Str) | raw (v : V)
  | dic0 | scr (ns : List Int) | lst (xs : List Dat) | tup (xs : List Dat) | obj (C : Addr) (ns : List Str) (xs : List Dat)
  | xn (a dd : Addr) (ns : List Str) (xs : List Dat)
  | at (a : Addr) (d : Dat)

theorem Same.tpl {K : PySem.W.Frag} {H H' : Hp} {a : Addr} {xs : List V} (e : Same H H') (h : SqT K H a xs) : SqT K H' a xs := by
  rcases h with (h | ⟨o, h⟩) | h
  · exact .inl (.inl (e _ _ h))
  · exact .inl (.inr ⟨o, e _ _ h⟩)
  · exact .inr h

mutual
def Den (K : PySem.W.Frag) (G : Hp) : Dat → V → Prop
  | .non, v => v = .non
  | .bl b, v => v = .bl b
  | .int i, v => v = .int i
  | .str s, v => v = .str s
  | .raw u, v => v = u
  | .dic0, v => ∃ a, v = .ref a ∧ G a = some (.dK [])
  | .scr ns, v => ∃ a, v = .ref a ∧ SqL K G a (ns.map V.int)
  | .lst ds, v => ∃ a vs, v = .ref a ∧ G a = some (.lst vs) ∧ DenL K G ds vs
  | .tup ds, v => ∃ a vs, v = .ref a ∧ G a = some (.tup vs) ∧ DenL K G ds vs
  | .obj C ns ds, v => ∃ a dx vs, v = .ref a ∧ G a = some (.ins C dx (ns.zip vs)) ∧ G dx = some (.own a) ∧ DenL K G ds vs
  | .xn a dd ns ds, v => ∃ vs, v = .ref a ∧ G dd = some (.xd (ns.zip vs)) ∧ DenL K G ds vs
  | .at a d, v => v = .ref a ∧ Den K G d v
def DenL (K : PySem.W.Frag) (G : Hp) : List Dat → List V → Prop
  | [], vs => vs = []
  | d :: ds, vs => ∃ v r, vs = v :: r ∧ Den K G d v ∧ DenL K G ds r
end
section
variable {K : PySem.W.Frag} {G G' H H' : Hp}
mutual
theorem Den.mono (h : Same G G') : ∀ (d : Dat) (v : V), Den K G d v → Den K G' d v
  | .non, _, q => by simpa [Den] using q
  | .bl _, _, q => by simpa [Den] using q
  | .int _, _, q => by simpa [Den] using q
  | .str _, _, q => by simpa [Den] using q
  | .raw _, _, q => by simpa [Den] using q
  | .dic0, _, q => by
    simp only [Den] at q ⊢
    obtain ⟨a, e, g⟩ := q
    exact ⟨a, e, h _ _ g⟩
  | .scr _, _, q => by
    simp only [Den] at q ⊢
    obtain ⟨a, e, g⟩ := q
    exact ⟨a, e, h.seq g⟩
  | .lst ds, v, q => by
    simp only [Den] at q ⊢
    obtain ⟨a, vs, e, s, t⟩ := q
    exact ⟨a, vs, e, h _ _ s, DenL.mono h ds vs t⟩
  | .tup ds, v, q => by
    simp only [Den] at q ⊢
    obtain ⟨a, vs, e, s, t⟩ := q
    exact ⟨a, vs, e, h _ _ s, DenL.mono h ds vs t⟩
  | .obj C ns ds, v, q => by
    simp only [Den] at q ⊢
    obtain ⟨a, dx, vs, e, s, s2, t⟩ := q
    exact ⟨a, dx, vs, e, h _ _ s, h _ _ s2, DenL.mono h ds vs t⟩
  | .xn a dd ns ds, v, q => by
    simp only [Den] at q ⊢
    obtain ⟨vs, e, s, t⟩ := q
    exact ⟨vs, e, h _ _ s, DenL.mono h ds vs t⟩
  | .at a d, v, q => by
    simp only [Den] at q ⊢
    exact ⟨q.1, Den.mono h d v q.2⟩
theorem DenL.mono (h : Same G G') : ∀ (ds : List Dat) (vs : List V), DenL K G ds vs → DenL K G' ds vs
  | [], _, q => by simpa [DenL] using q
  | d :: ds, vs, q => by
    simp only [DenL] at q ⊢
    obtain ⟨v, r, e, s, t⟩ := q
    exact ⟨v, r, e, Den.mono h d v s, DenL.mono h ds r t⟩
end
theorem Den.up {d : Dat} {v : V} (q : Den K G d v) (h : Same G G') : Den K G' d v := Den.mono h d v q
theorem DenL.up {ds : List Dat} {vs : List V} (q : DenL K G ds vs) (h : Same G G') : DenL K G' ds vs := DenL.mono h ds vs q
theorem den_lst {a : Addr} {ds : List Dat} {vs : List V} (h : G a = some (.lst vs)) (q : DenL K G ds vs) : Den K G (.lst ds) (.ref a) := by
  simp only [Den]; exact ⟨a, vs, rfl, h, q⟩
theorem den_tup {a : Addr} {ds : List Dat} {vs : List V} (h : G a = some (.tup vs)) (q : DenL K G ds vs) : Den K G (.tup ds) (.ref a) := by
  simp only [Den]; exact ⟨a, vs, rfl, h, q⟩
theorem den_int {i : Int} : Den K G (.int i) (.int i) := by simp only [Den]
theorem den_bl {b : Bool} : Den K G (.bl b) (.bl b) := by simp only [Den]
theorem den_str {s : Str} : Den K G (.str s) (.str s) := by simp only [Den]
theorem den_non : Den K G .non .non := by simp only [Den]
theorem den_raw {v : V} : Den K G (.raw v) v := by simp only [Den]
theorem Den.lst_inv {ds : List Dat} {v : V} (q : Den K G (.lst ds) v) : ∃ a vs, v = .ref a ∧ G a = some (.lst vs) ∧ DenL K G ds vs := by simpa only [Den] using q
theorem Den.tup_inv {ds : List Dat} {v : V} (q : Den K G (.tup ds) v) : ∃ a vs, v = .ref a ∧ G a = some (.tup vs) ∧ DenL K G ds vs := by simpa only [Den] using q
theorem Den.obj_inv {C : Addr} {ns : List Str} {ds : List Dat} {v : V} (q : Den K G (.obj C ns ds) v) : ∃ a dx vs, v = .ref a ∧ G a = some (.ins C dx (ns.zip vs)) ∧ G dx = some (.own a) ∧ DenL K G ds vs := by simpa only [Den] using q
theorem Den.xn_inv {a dd : Addr} {ns : List Str} {ds : List Dat} {v : V} (q : Den K G (.xn a dd ns ds) v) : ∃ vs, v = .ref a ∧ G dd = some (.xd (ns.zip vs)) ∧ DenL K G ds vs := by simpa only [Den] using q
theorem Den.at_inv {a : Addr} {d : Dat} {v : V} (q : Den K G (.at a d) v) : v = .ref a ∧ Den K G d v := by simpa only [Den] using q
theorem den_at {a : Addr} {d : Dat} (h : Den K G d (.ref a)) : Den K G (.at a d) (.ref a) := by simp only [Den, true_and]; exact h
theorem Den.scr_inv {ns : List Int} {v : V} (q : Den K G (.scr ns) v) : ∃ a, v = .ref a ∧ SqL K G a (ns.map V.int) := by simpa only [Den] using q
theorem Den.dic0_inv {v : V} (q : Den K G .dic0 v) : ∃ a, v = .ref a ∧ G a = some (.dK []) := by simpa only [Den] using q
theorem Den.int_inv {i : Int} {v : V} (q : Den K G (.int i) v) : v = .int i := by simpa only [Den] using q
theorem Den.bl_inv {b : Bool} {v : V} (q : Den K G (.bl b) v) : v = .bl b := by simpa only [Den] using q
theorem Den.str_inv {s : Str} {v : V} (q : Den K G (.str s) v) : v = .str s := by simpa only [Den] using q
theorem Den.non_inv {v : V} (q : Den K G .non v) : v = .non := by simpa only [Den] using q
theorem Den.raw_inv {u v : V} (q : Den K G (.raw u) v) : v = u := by simpa only [Den] using q
theorem DenL.nil : DenL K G [] [] := by simp only [DenL]
theorem DenL.cons {d : Dat} {ds : List Dat} {v : V} {vs : List V} (h : Den K G d v) (q : DenL K G ds vs) : DenL K G (d :: ds) (v :: vs) := by
  simp only [DenL]; exact ⟨v, vs, rfl, h, q⟩
theorem DenL.nil_inv {vs : List V} (q : DenL K G [] vs) : vs = [] := by simpa only [DenL] using q
theorem DenL.cons_inv {d : Dat} {ds : List Dat} {vs : List V} (q : DenL K G (d :: ds) vs) : ∃ v r, vs = v :: r ∧ Den K G d v ∧ DenL K G ds r := by simpa only [DenL] using q
theorem DenL.length : ∀ {ds : List Dat} {vs : List V}, DenL K G ds vs → vs.length = ds.length
  | [], _, q => by rw [q.nil_inv]; rfl
  | d :: ds, _, q => by
    obtain ⟨v, r, rfl, _, t⟩ := q.cons_inv
    simp only [List.length_cons, t.length]
theorem DenL.get : ∀ {ds : List Dat} {vs : List V} {i : Nat} {d : Dat}, DenL K G ds vs → ds[i]? = some d → ∃ v, vs[i]? = some v ∧ Den K G d v
  | [], _, _, _, _, e => by simp at e
  | _ :: _, _, 0, _, q, e => by
    obtain ⟨v, r, rfl, h, _⟩ := q.cons_inv
    simp at e; subst e
    exact ⟨v, rfl, h⟩
  | _ :: _, _, i + 1, _, q, e => by
    obtain ⟨v, r, rfl, _, t⟩ := q.cons_inv
    obtain ⟨u, h1, h2⟩ := DenL.get t (i := i) (by simpa using e)
    exact ⟨u, by simpa using h1, h2⟩
theorem DenL.append : ∀ {ds es : List Dat} {vs us : List V}, DenL K G ds vs → DenL K G es us → DenL K G (ds ++ es) (vs ++ us)
  | [], _, _, _, q, r => by rw [q.nil_inv]; exact r
  | _ :: _, _, _, _, q, r => by
    obtain ⟨v, t, rfl, h, q⟩ := q.cons_inv
    exact DenL.cons h (DenL.append q r)
theorem DenL.snoc {ds : List Dat} {d : Dat} {vs : List V} {v : V} (q : DenL K G ds vs) (h : Den K G d v) : DenL K G (ds ++ [d]) (vs ++ [v]) := q.append (.cons h .nil)
theorem DenL.take : ∀ {ds : List Dat} {vs : List V} (n : Nat), DenL K G ds vs → DenL K G (ds.take n) (vs.take n)
  | [], _, n, q => by rw [q.nil_inv]; simp only [List.take_nil]; exact .nil
  | _ :: _, _, 0, q => by simp only [List.take_zero]; exact .nil
  | _ :: _, _, n + 1, q => by
    obtain ⟨v, t, rfl, h, q⟩ := q.cons_inv
    exact DenL.cons h (DenL.take n q)
theorem DenL.drop : ∀ {ds : List Dat} {vs : List V} (n : Nat), DenL K G ds vs → DenL K G (ds.drop n) (vs.drop n)
  | [], _, n, q => by rw [q.nil_inv]; simp only [List.drop_nil]; exact .nil
  | _ :: _, _, 0, q => q
  | _ :: _, _, n + 1, q => by
    obtain ⟨v, t, rfl, h, q⟩ := q.cons_inv
    exact DenL.drop n q
theorem DenL.reverse : ∀ {ds : List Dat} {vs : List V}, DenL K G ds vs → DenL K G ds.reverse vs.reverse
  | [], _, q => by rw [q.nil_inv]; exact .nil
  | _ :: _, _, q => by
    obtain ⟨v, t, rfl, h, q⟩ := q.cons_inv
    simp only [List.reverse_cons]
    exact q.reverse.append (.cons h .nil)
theorem DenL.set {d : Dat} {v : V} (h : Den K G d v) : ∀ {ds : List Dat} {vs : List V} (i : Nat), DenL K G ds vs → DenL K G (ds.set i d) (vs.set i v)
  | [], _, _, q => by rw [q.nil_inv]; exact .nil
  | _ :: _, _, 0, q => by
    obtain ⟨u, t, rfl, _, q⟩ := q.cons_inv
    exact DenL.cons h q
  | _ :: _, _, i + 1, q => by
    obtain ⟨u, t, rfl, g, q⟩ := q.cons_inv
    exact DenL.cons g (DenL.set h i q)
/-- lists of ints, texts, bools by their values -/
theorem DenL.ints : ∀ {ns : List Int} {vs : List V}, DenL K G (ns.map Dat.int) vs → vs = ns.map V.int
  | [], _, q => q.nil_inv
  | n :: ns, _, q => by
    obtain ⟨v, t, rfl, h, q⟩ := q.cons_inv
    rw [h.int_inv, DenL.ints q]
    all_goals rfl
theorem DenL.strs : ∀ {ns : List Str} {vs : List V}, DenL K G (ns.map Dat.str) vs → vs = ns.map V.str
  | [], _, q => q.nil_inv
  | n :: ns, _, q => by
    obtain ⟨v, t, rfl, h, q⟩ := q.cons_inv
    rw [h.str_inv, DenL.strs q]
    all_goals rfl
theorem denL_strs : ∀ {ns : List Str}, DenL K G (ns.map Dat.str) (ns.map V.str)
  | [] => .nil
  | n :: ns => .cons den_str denL_strs
end

/-! ### the slots -/
abbrev TEnv := List (Option Dat)
def DenE (K : PySem.W.Frag) (τ : TEnv) (G : Hp) (σ : St) : Prop := ∀ (i : Nat) (d : Dat), τ[i]? = some (some d) → ∃ v, σ[i]? = some (some v) ∧ Den K G d v
section
variable {K : PySem.W.Frag} {G G' : Hp} {τ : TEnv} {σ : St}
theorem DenE.up (q : DenE K τ G σ) (h : Same G G') : DenE K τ G' σ := fun i d e => let ⟨v, h1, h2⟩ := q i d e; ⟨v, h1, h2.up h⟩
theorem DenE.unset {i : Nat} (q : DenE K τ G σ) : DenE K (τ.set i none) G (σ.set i none) := fun j e hj => by
  by_cases c : i = j
  · subst c
    have hl : i < τ.length := by
      have := (List.getElem?_eq_some_iff.mp hj).1
      simpa using this
    rw [List.getElem?_set_self hl] at hj
    cases hj
  · rw [List.getElem?_set_ne c] at hj
    obtain ⟨u, h1, h2⟩ := q j e hj
    exact ⟨u, by rw [List.getElem?_set_ne c]; exact h1, h2⟩
theorem DenE.set {i : Nat} {d : Dat} {v : V} (q : DenE K τ G σ) (hi : i < σ.length) (h : Den K G d v) : DenE K (τ.set i (some d)) G (σ.set i (some v)) := fun j e hj => by
  by_cases c : i = j
  · subst c
    have hl : i < τ.length := by
      have := (List.getElem?_eq_some_iff.mp hj).1
      simpa using this
    rw [List.getElem?_set_self hl] at hj
    cases hj
    exact ⟨v, List.getElem?_set_self hi, h⟩
  · rw [List.getElem?_set_ne c] at hj
    obtain ⟨u, h1, h2⟩ := q j e hj
    exact ⟨u, by rw [List.getElem?_set_ne c]; exact h1, h2⟩
end

/-! ### what may change -/
inductive MC where
  | lst (ds : List Dat) | ins (C dx : Addr) (fs : List (Str × Dat)) | dic (kvs : List (Key × Dat))
abbrev Mem := List (Addr × MC)
def adr1 : Addr × MC → List Addr
  | (p, .ins _ dx _) => [p, dx]
  | (p, _) => [p]
def adr (M : Mem) : List Addr := M.flatMap adr1
/-- names with data against names with values -/
def DenF (K : PySem.W.Frag) (G : Hp) {κ : Type} (fs : List (κ × Dat)) (vs : List (κ × V)) : Prop := vs.map (·.1) = fs.map (·.1) ∧ DenL K G (fs.map (·.2)) (vs.map (·.2))
def MH (K : PySem.W.Frag) (G H : Hp) : Addr × MC → Prop
  | (p, .lst ds) => ∃ vs, H p = some (.lst vs) ∧ DenL K G ds vs
  | (p, .ins C dx fs) => ∃ vs, H p = some (.ins C dx vs) ∧ H dx = some (.own p) ∧ DenF K G fs vs
  | (p, .dic kvs) => ∃ vs, H p = some (.dK vs) ∧ DenF K G kvs vs
structure Hst (K : PySem.W.Frag) (G : Hp) (M : Mem) (H : Hp) : Prop where
  sub : Same G H
  mem : ∀ c ∈ M, MH K G H c
  out : ∀ b ∈ adr M, G b = none
  nd : (adr M).Nodup
structure Stp (G : Hp) (M : Mem) (H G2 : Hp) (M2 : Mem) (H2 : Hp) : Prop where
  gg : Same G G2
  hh : ∀ b o, b ∉ adr M → H b = some o → H2 b = some o
  fr : ∀ b, H b ≠ none → b ∉ adr M → G b = none → G2 b = none
  ad : ∀ b ∈ adr M2, b ∈ adr M ∨ H b = none
section
variable {K : PySem.W.Frag} {G G1 G2 G3 H H1 H2 H3 : Hp} {M M1 M2 M3 : Mem}
theorem DenF.up {κ : Type} {fs : List (κ × Dat)} {vs : List (κ × V)} (q : DenF K G fs vs) (h : Same G G1) : DenF K G1 fs vs := ⟨q.1, q.2.up h⟩
theorem Stp.refl : Stp G M H G M H := ⟨Same.refl _, fun _ _ _ e => e, fun _ _ _ e => e, fun _ h => .inl h⟩
theorem Stp.trans (a : Stp G M H G1 M1 H1) (b : Stp G1 M1 H1 G2 M2 H2) : Stp G M H G2 M2 H2 where
  gg := a.gg.trans b.gg
  hh := fun c o n e => by
    refine b.hh c o (fun z => ?_) (a.hh c o n e)
    rcases a.ad c z with z | z
    · exact n z
    · rw [e] at z; cases z
  fr := fun c hc n g => by
    have z1 : c ∉ adr M1 := fun z => by
      rcases a.ad c z with z | z
      · exact n z
      · exact hc z
    refine b.fr c (fun z => ?_) z1 (a.fr c hc n g)
    cases e : H c with
    | none => exact hc e
    | some o => rw [a.hh c o n e] at z; cases z
  ad := fun c h => by
    rcases b.ad c h with z | z
    · exact a.ad c z
    · refine (Classical.em (c ∈ adr M)).imp id fun n => ?_
      cases e : H c with
      | none => rfl
      | some o => rw [a.hh c o n e] at z; cases z
theorem MH.up {c : Addr × MC} (q : MH K G H c) (h : Same G G1) (e : ∀ b ∈ adr1 c, ∀ o, H b = some o → H1 b = some o) : MH K G1 H1 c := by
  obtain ⟨p, c⟩ := c
  cases c with
  | lst ds => obtain ⟨vs, h1, h2⟩ := q; exact ⟨vs, e p (by simp [adr1]) _ h1, h2.up h⟩
  | ins C dx fs => obtain ⟨vs, h1, h2, h3⟩ := q; exact ⟨vs, e p (by simp [adr1]) _ h1, e dx (by simp [adr1]) _ h2, h3.up h⟩
  | dic kvs => obtain ⟨vs, h1, h2⟩ := q; exact ⟨vs, e p (by simp [adr1]) _ h1, h2.up h⟩
theorem MH.there {c : Addr × MC} (q : MH K G H c) : ∀ b ∈ adr1 c, H b ≠ none := by
  obtain ⟨p, c⟩ := c
  intro b hb z
  cases c with
  | lst ds =>
    obtain ⟨vs, h1, h2⟩ := q
    have hb : b = p := by simpa [adr1] using hb
    rw [hb, h1] at z; cases z
  | ins C dx fs =>
    obtain ⟨vs, h1, h2, h3⟩ := q
    have hb : b = p ∨ b = dx := by simpa [adr1] using hb
    rcases hb with rfl | rfl
    · rw [h1] at z; cases z
    · rw [h2] at z; cases z
  | dic kvs =>
    obtain ⟨vs, h1, h2⟩ := q
    have hb : b = p := by simpa [adr1] using hb
    rw [hb, h1] at z; cases z
theorem Hst.there (h : Hst K G M H) : ∀ b ∈ adr M, H b ≠ none := fun b hb => by
  obtain ⟨c, hc, hb⟩ := List.mem_flatMap.mp hb
  exact (h.mem c hc).there b hb
theorem adr_append {A B : Mem} : adr (A ++ B) = adr A ++ adr B := by unfold adr; exact List.flatMap_append
theorem adr_perm {A B : Mem} (p : A.Perm B) : (adr A).Perm (adr B) := by unfold adr; exact p.flatMap_right _
theorem Hst.perm (h : Hst K G M H) (p : M.Perm M1) : Hst K G M1 H :=
  ⟨h.sub, fun c hc => h.mem c (p.mem_iff.mpr hc), fun b hb => h.out b ((adr_perm p).mem_iff.mpr hb), (adr_perm p).nodup_iff.mp h.nd⟩
theorem Stp.perm {A B : Mem} (s : Stp G M H G2 M2 H2) (p : M.Perm A) (q : M2.Perm B) : Stp G A H G2 B H2 :=
  ⟨s.gg, fun b o n e => s.hh b o (fun z => n ((adr_perm p).mem_iff.mp z)) e, fun b hb n g => s.fr b hb (fun z => n ((adr_perm p).mem_iff.mp z)) g,
    fun b hb => (s.ad b ((adr_perm q).mem_iff.mpr hb)).imp (fun z => (adr_perm p).mem_iff.mp z) id⟩
/-- a part of what may change -/
theorem Hst.left {A B : Mem} (h : Hst K G (A ++ B) H) : Hst K G A H :=
  ⟨h.sub, fun c hc => h.mem c (List.mem_append_left _ hc), fun b hb => h.out b (by rw [adr_append]; exact List.mem_append_left _ hb), by
    have := h.nd; rw [adr_append] at this; exact (List.nodup_append.mp this).1⟩
/-- the rest stays -/
theorem Stp.frame {A A2 B : Mem} (h : Hst K G (A ++ B) H) (s : Stp G A H G2 A2 H2) (h2 : Hst K G2 A2 H2) : Stp G (A ++ B) H G2 (A2 ++ B) H2 ∧ Hst K G2 (A2 ++ B) H2 := by
  have nd := h.nd
  rw [adr_append] at nd
  obtain ⟨n1, n2, n3⟩ := List.nodup_append.mp nd
  have nB : ∀ b ∈ adr B, b ∉ adr A := fun b hb ha => n3 b ha b hb rfl
  have th : ∀ b ∈ adr B, H b ≠ none := fun b hb => h.there b (by rw [adr_append]; exact List.mem_append_right _ hb)
  refine ⟨⟨s.gg, fun b o n e => s.hh b o (fun z => n (by rw [adr_append]; exact List.mem_append_left _ z)) e, fun b hb n g => s.fr b hb (fun z => n (by rw [adr_append]; exact List.mem_append_left _ z)) g, fun b hb => ?_⟩, h2.sub, fun c hc => ?_, fun b hb => ?_, ?_⟩
  · rw [adr_append] at hb ⊢
    rcases List.mem_append.mp hb with z | z
    · exact (s.ad b z).imp (fun y => List.mem_append_left _ y) id
    · exact .inl (List.mem_append_right _ z)
  · rcases List.mem_append.mp hc with z | z
    · exact h2.mem c z
    · exact (h.mem c (List.mem_append_right _ z)).up s.gg fun b hb o e => s.hh b o (nB b (List.mem_flatMap.mpr ⟨c, z, hb⟩)) e
  · rw [adr_append] at hb
    rcases List.mem_append.mp hb with z | z
    · exact h2.out b z
    · exact s.fr b (th b z) (nB b z) (h.out b (by rw [adr_append]; exact List.mem_append_right _ z))
  · rw [adr_append]
    refine List.nodup_append.mpr ⟨h2.nd, n2, fun a ha b hb e => ?_⟩
    subst e
    rcases s.ad a ha with z | z
    · exact nB a hb z
    · exact th a hb z
/-- a new thing of the unchanging part -/
theorem Stp.new {p : Addr} {o : HO} (h : Hst K G M H) (hp : H p = none) : Stp G M H (upd G p o) M (upd H p o) ∧ Hst K (upd G p o) M (upd H p o) := by
  have gp : G p = none := h.sub.free hp
  have nM : ∀ b ∈ adr M, b ≠ p := fun b hb e => h.there b hb (by rw [e]; exact hp)
  refine ⟨⟨fun b u e => ?_, fun b u _ e => ?_, fun b hb _ g => ?_, fun b hb => .inl hb⟩, fun b u e => ?_, fun c hc => (h.mem c hc).up (fun b u e => ?_) fun b hb u e => ?_, fun b hb => ?_, h.nd⟩
  · rw [upd_ne (ne_of_none e gp)]; exact e
  · rw [upd_ne (ne_of_none e hp)]; exact e
  · rw [upd_ne (fun e => hb (by rw [e]; exact hp))]; exact g
  · by_cases c : b = p
    · subst c; rw [upd_same] at e ⊢; exact e
    · rw [upd_ne c] at e ⊢; exact h.sub b u e
  · rw [upd_ne (ne_of_none e gp)]; exact e
  · rw [upd_ne (nM b (List.mem_flatMap.mpr ⟨c, hc, hb⟩))]; exact e
  · rw [upd_ne (nM b hb)]; exact h.out b hb
end
end Kh

set_option Elab.async false
set_option linter.all false
set_option maxRecDepth 100000
set_option maxHeartbeats 1000000
namespace Kh
open PySem PySem.Spec L2
open PyProof.Rows (isTrue_plain isTrue_not isTrue_and isTrue_or isTrue_and_nil isTrue_or_nil BoolOp_one BoolOp_and BoolOp_or UnaryOp_ not_of)

/-! ### the weakest readings; T: a token is out already -/
def Tk (T : Bool) (s : Shared) : Prop := T = true → 1 ≤ s.toks
theorem tk_f {s : Shared} : Tk false s := fun h => nomatch h
section
variable {α : Type} {t : Sem α} {Q Q' : α → Shared → Prop} {M : Model} {A : Around} {E : Value → Shared → Prop} {s : Shared} {T : Bool}
theorem thnT (hT : Tk T s) (h : wpAny M A t Q E s) (hQ : ∀ a s', Tk T s' → Q a s' → Q' a s') : wpAny M A t Q' E s := by
  cases T with
  | false => exact thn h fun a s' q => hQ a s' tk_f q
  | true => exact wpAny_with_toks (hT rfl) (wpAny_mono h (fun a s' q k => hQ a s' (fun _ => k) q) fun _ _ x _ => x)
end
def tW (X : Cx) (T : Bool) (e : Expr) : TE := fun σ H Q => ∀ pins s, Tk T s → Inv X pins σ H s → wpAny (model X.prog X.w) X.A (eval e X.env) (EP X pins σ Q) X.xe s
def tWT (X : Cx) (T : Bool) (e : Expr) : TT := fun σ H Q => ∀ pins s, Tk T s → Inv X pins σ H s → wpAny (model X.prog X.w) X.A (isTrue e X.env (eval e X.env)) (TP X pins σ Q) X.xe s
def tWW (X : Cx) (T : Bool) (e : Expr) : TT := fun σ H Q => ∀ whole pins s, Tk T s → Inv X pins σ H s → wpAny (model X.prog X.w) X.A (isTrue e X.env whole) (TP X pins σ Q) X.xe s
def tWA (X : Cx) (T : Bool) (es : List Expr) : TA := fun σ H Q => ∀ (pos : Pos) pins s, Tk T s → Inv X pins σ H s → wpAny (model X.prog X.w) X.A (spliced (backTo pos (starEach es X.env))) (AP X pins σ Q) X.xe s
def tWS (X : Cx) (T : Bool) (st : Stmt) : TS := fun D σ H => ∀ pins s, Tk T s → Inv X pins σ H s → wpAny (model X.prog X.w) X.A (exec st X.env) (SP X pins D) X.xe s
def tWSs (X : Cx) (T : Bool) (ss : List Stmt) : TS := fun D σ H => ∀ pins s, Tk T s → Inv X pins σ H s → wpAny (model X.prog X.w) X.A (execs ss X.env) (SP X pins D) X.xe s
def tWI (X : Cx) (T : Bool) (tg iter : Expr) : TI := fun σ H R => ∀ pins s, Tk T s → Inv X pins σ H s → wpAny (model X.prog X.w) X.A (eval iter X.env) (fun v s1 => wpAny (model X.prog X.w) X.A (pyIter v) (PIE X pins σ tg R) X.xe s1) X.xe s
def tWG (X : Cx) (T : Bool) (target : Expr) : TG := fun v σ H Q => ∀ pins s u, Tk T s → Inv X pins σ H s → RelV v u → wpAny (model X.prog X.w) X.A (assign target X.env u) (fun _ s' => ∃ σ' H', Inv X pins σ' H' s' ∧ Q σ' H') X.xe s
def tWGs (X : Cx) (T : Bool) (ts : List Expr) : TGs := fun vs σ H Q => ∀ pins s us, Tk T s → Inv X pins σ H s → Vals vs us → wpAny (model X.prog X.w) X.A (assignInOrder ((assignEach ts X.env).map (·.2)) us) (fun _ s' => ∃ σ' H', Inv X pins σ' H' s' ∧ Q σ' H') X.xe s
def rW (X : Cx) (T : Bool) (f : Value → Value → Sem Value) : R2 := fun x y H Q => ∀ pins s σ v u, Tk T s → Inv X pins σ H s → RelV x v → RelV y u → wpAny (model X.prog X.w) X.A (f v u) (EP X pins σ Q) X.xe s
section
variable {X : Cx} {T : Bool} {e a b c : Expr} {es rest' : List Expr} {st : Stmt} {ss rest : List Stmt} {tg iter : Expr} {pos : Pos} {σ : L2.St} {H : Hp} {Q : VK} {QT : Bool → Hp → Prop} {D : Ends}
theorem tW_of {t : TE} (h : PE X e t) (q : t σ H Q) : tW X T e σ H Q := fun pins s _ I => h.run pins s σ H Q I q
theorem tWA_of {t : TA} {Q : List V → Hp → Prop} (h : PA X es t) (q : t σ H Q) : tWA X T es σ H Q := fun pos pins s _ I => h.run pos pins s σ H Q I q
theorem tWS_of {t : TS} (h : PS X st t) (q : t D σ H) : tWS X T st D σ H := fun pins s _ I => h.run pins s σ H D I q
theorem tWSs_of {t : TS} (h : PSs X ss t) (q : t D σ H) : tWSs X T ss D σ H := fun pins s _ I => h.run pins s σ H D I q
theorem tWI_of {t : TI} {R : It → Hp → Prop} (h : PI X tg iter t) (q : t σ H R) : tWI X T tg iter σ H R := fun pins s _ I => h.run pins s σ H R I q
theorem tWG_of {t : TG} {v : V} {Q : L2.St → Hp → Prop} (h : PG X tg t) (q : t v σ H Q) : tWG X T tg v σ H Q := fun pins s u _ I r => h.run pins s σ H v u Q I r q
theorem rW_of {f : Value → Value → Sem Value} {r : R2} {x y : V} (h : OpR X f r) (q : r x y H Q) : rW X T f x y H Q := fun pins s σ v u _ I rx ry => h pins s σ H x y v u Q I rx ry q
/-- without the token -/
theorem pe_W : PE X e (tW X false e) := ⟨fun pins s _ _ _ I h => h pins s tk_f I⟩
theorem pt_W : PT X e (tWT X false e) := ⟨fun pins s _ _ _ I h => h pins s tk_f I⟩
theorem pa_W : PA X es (tWA X false es) := ⟨fun pos pins s _ _ _ I h => h pos pins s tk_f I⟩
theorem pi_W : PI X tg iter (tWI X false tg iter) := ⟨fun pins s _ _ _ I h => h pins s tk_f I⟩
theorem pg_W : PG X tg (tWG X false tg) := ⟨fun pins s _ _ _ u _ I r h => h pins s u tk_f I r⟩
theorem tWSs_len (h : σ.length = X.N.length → tWSs X T ss D σ H) : tWSs X T ss D σ H := fun pins s k I => h I.len pins s k I
theorem tWG_len {v : V} {Q : L2.St → Hp → Prop} (h : σ.length = X.N.length → tWG X T tg v σ H Q) : tWG X T tg v σ H Q := fun pins s u k I r => h I.len pins s u k I r
/-! the constructs, from the readings of their parts -/
theorem w_two {f : Value → Value → Sem Value} (q : tW X T a σ H fun x H1 => tW X T b σ H1 fun y H2 => rW X T f x y H2 Q) {pins : List (Addr × Obj)} {s : Shared} (k : Tk T s) (I : Inv X pins σ H s) :
    wpAny (model X.prog X.w) X.A (eval a X.env) (fun v s₁ => wpAny (model X.prog X.w) X.A (eval b X.env) (fun u s₂ => wpAny (model X.prog X.w) X.A (f v u) (EP X pins σ Q) X.xe s₂) X.xe s₁) X.xe s :=
  thnT k (q pins s k I) fun v s1 k1 ⟨x, H1, I1, r1, q1⟩ => thnT k1 (q1 pins s1 k1 I1) fun u s2 k2 ⟨y, H2, I2, r2, q2⟩ => q2 pins s2 σ v u k2 I2 r1 r2
theorem w_bin {op : Operator} (q : tW X T a σ H fun x H1 => tW X T b σ H1 fun y H2 => rW X T (binaryOp op) x y H2 Q) : tW X T (.BinOp a op b pos) σ H Q := fun pins s k I => wpAny_BinOp (w_two q k I)
theorem w_cmp {op : CmpOp} (hm : behindInMarks op b = false) (q : tW X T a σ H fun x H1 => tW X T b σ H1 fun y H2 => rW X T (compareOp op) x y H2 Q) : tW X T (.Compare a [op] [b] pos) σ H Q := fun pins s k I => wpAny_Compare1 (w_two q k I) hm
theorem w_val (he : ∀ whole, isTrue e X.env whole = (do let v ← whole; standAt e.pos; holding [v] (truthy v))) (q : tW X T e σ H fun x H1 => ∃ c, x = .bl c ∧ QT c H1) : tWT X T e σ H QT := fun pins s k I =>
  isTrue_plain (thnT k (q pins s k I) fun v s1 _ ⟨x, H1, I1, r1, c, ec, q1⟩ => by subst ec; cases r1; exact wpAny_truthy_bool ⟨H1, I1, q1⟩) (he _)
theorem w_cmpT {op : CmpOp} (hm : behindInMarks op b = false) (q : tW X T a σ H fun x H1 => tW X T b σ H1 fun y H2 => rW X T (compareOp op) x y H2 fun z H3 => ∃ c, z = .bl c ∧ QT c H3) : tWT X T (.Compare a [op] [b] pos) σ H QT := fun pins s k I =>
  wpAny_isTrue_Compare1 (thnT k (w_two q k I) fun v s1 _ h1 => thn h1 fun u s2 h2 => thn h2 fun cv s3 ⟨x, H1, I1, r1, c, ec, q1⟩ => by subst ec; cases r1; exact wpAny_truthy_bool ⟨H1, I1, q1⟩) hm
theorem w_not (q : tWT X T a σ H fun c H1 => QT (!c) H1) : tWT X T (.UnaryOp .Not a pos) σ H QT := fun pins s k I => isTrue_not (q pins s k I)
theorem w_and1 (q : tWT X T a σ H QT) : tWW X T (.BoolOp .And [a] pos) σ H QT := fun wh pins s k I => isTrue_and (thn (q pins s k I) fun c s1 e => by
  cases c with
  | true => exact isTrue_and_nil e
  | false => exact e)
theorem w_or1 (q : tWT X T a σ H QT) : tWW X T (.BoolOp .Or [a] pos) σ H QT := fun wh pins s k I => isTrue_or (thn (q pins s k I) fun c s1 e => by
  cases c with
  | false => exact isTrue_or_nil e
  | true => exact e)
theorem w_and (q : tWT X T a σ H fun c H1 => if c = true then tWW X T (.BoolOp .And (b :: rest') pos) σ H1 QT else QT false H1) : tWW X T (.BoolOp .And (a :: b :: rest') pos) σ H QT := fun wh pins s k I =>
  isTrue_and (thnT k (q pins s k I) fun c s1 k1 ⟨H1, I1, q1⟩ => by
    cases c with
    | true => exact q1 wh pins s1 k1 I1
    | false => exact ⟨H1, I1, q1⟩)
theorem w_or (q : tWT X T a σ H fun c H1 => if c = true then QT true H1 else tWW X T (.BoolOp .Or (b :: rest') pos) σ H1 QT) : tWW X T (.BoolOp .Or (a :: b :: rest') pos) σ H QT := fun wh pins s k I =>
  isTrue_or (thnT k (q pins s k I) fun c s1 k1 ⟨H1, I1, q1⟩ => by
    cases c with
    | false => exact q1 wh pins s1 k1 I1
    | true => exact ⟨H1, I1, q1⟩)
theorem v_one {op} (q : tW X T a σ H Q) : tW X T (.BoolOp op [a] pos) σ H Q := fun pins s k I => BoolOp_one (q pins s k I)
theorem v_and (q : tW X T a σ H fun x H1 => ∃ c, x = .bl c ∧ if c = true then tW X T (.BoolOp .And (b :: rest') pos) σ H1 Q else Q (.bl false) H1) : tW X T (.BoolOp .And (a :: b :: rest') pos) σ H Q := fun pins s k I =>
  BoolOp_and (thnT k (q pins s k I) fun v s1 k1 ⟨x, H1, I1, r1, c, ec, q1⟩ => by
    subst ec; cases r1
    refine wpAny_truthy_bool ?_
    cases c with
    | true => exact q1 pins s1 k1 I1
    | false => exact ⟨.bl false, H1, I1, rfl, q1⟩)
theorem v_not (q : tW X T a σ H fun x H1 => ∃ c, x = .bl c ∧ Q (.bl (!c)) H1) : tW X T (.UnaryOp .Not a pos) σ H Q := fun pins s k I =>
  UnaryOp_ (thn (q pins s k I) fun v s1 ⟨x, H1, I1, r1, c, ec, q1⟩ => by subst ec; cases r1; exact not_of (wpAny_truthy_bool ⟨.bl (!c), H1, I1, rfl, q1⟩))
theorem v_if (q : tWT X T c σ H fun k H1 => if k = true then tW X T a σ H1 Q else tW X T b σ H1 Q) : tW X T (.IfExp c a b pos) σ H Q := fun pins s k I =>
  wpAny_IfExp (thnT k (q pins s k I) fun d s1 k1 ⟨H1, I1, q1⟩ => by
    cases d with
    | true => exact q1 pins s1 k1 I1
    | false => exact q1 pins s1 k1 I1)
theorem wa_cons {Q : List V → Hp → Prop} (hs : starEach (e :: es) X.env = (false, eval e X.env) :: starEach es X.env) (q : tW X T e σ H fun x H1 => tWA X T es σ H1 fun xs H2 => Q (x :: xs) H2) : tWA X T (e :: es) σ H Q := fun pos pins s k I => by
  rw [hs]
  show wpAny _ _ (spliced ((false, eval e X.env) :: backTo pos (starEach es X.env))) _ _ s
  exact Calls.spliced_cons (thnT k (q pins s k I) fun u s1 k1 ⟨x, H1, I1, r1, q1⟩ => thn (q1 pos pins s1 k1 I1) fun us s2 ⟨xs, H2, I2, r2, q2⟩ => ⟨x :: xs, H2, I2, .cons r1 r2, q2⟩)
/-! statements -/
theorem ws_step' (q : tWS X T st { D with nx := tWSs X T rest D } σ H) : tWSs X T (st :: rest) D σ H := fun pins s k I =>
  wpAny_execs_cons (thnT k (q pins s k I) fun f s1 k1 h => by
    cases f with
    | next => obtain ⟨σ', H', I', h⟩ := h; exact h pins s1 k1 I'
    | ret v => exact h
    | brk => exact h
    | cont => exact h)
theorem s_ret (q : tW X T e σ H D.rt) : tWS X T (.Return (some e) pos) D σ H := fun pins s k I => wpAny_Return_some (thn (q pins s k I) fun v s1 ⟨x, H1, I1, r1, q1⟩ => ⟨x, σ, H1, I1, r1, q1⟩)
theorem s_expr (hs : swapsWith e none pos.line X.env = pure false) (q : tW X T e σ H fun _ H1 => D.nx σ H1) : tWS X T (.Expr e pos) D σ H := fun pins s k I =>
  wpAny_Expr_any (thn (q pins s k I) fun v s1 ⟨x, H1, I1, r1, q1⟩ => ⟨σ, H1, I1, q1⟩) I.quiet hs
theorem s_if {t : Expr} {p q : List Stmt} (h : tWT X T t σ H fun k H1 => if k = true then tWSs X T p D σ H1 else tWSs X T q D σ H1) : tWS X T (.If t p q pos) D σ H := fun pins s k I =>
  wpAny_If (thnT k (h pins s k I) fun d s1 k1 ⟨H1, I1, q1⟩ => by
    cases d with
    | true => exact q1 pins s1 k1 I1
    | false => exact q1 pins s1 k1 I1)
theorem s_asg (hs : swapsWithSole [tg] e pos.line X.env = pure false) (hw : swappedStores [tg] e X.env = pure none) (h1 : (assignEach [tg] X.env).map (·.2) = [assign tg X.env]) (q : tW X T e σ H fun x H1 => tWG X T tg x σ H1 D.nx) : tWS X T (.Assign [tg] e pos) D σ H := fun pins s k I =>
  wpAny_Assign_stores (thnT k (q pins s k I) fun v s1 k1 ⟨x, H1, I1, r1, q1⟩ => by
    rw [h1]
    exact thn (q1 pins s1 v k1 I1 r1) fun _ s2 q => q) hs hw
theorem s_set {i : Nat} {x : Str} {pos' : Pos} (hN : X.N.Nodup) (hi : X.N[i]? = some x) (hx : Loc X.env.scope x) (hs : swapsWith e (some (.Name x pos')) pos.line X.env = pure false) (hf : X.fn x = true ∨ X.env.scope.names.lookup x = some .local)
    (q : tW X T e σ H fun v H1 => D.nx (σ.set i (some v)) H1) : tWS X T (.Assign [.Name x pos'] e pos) D σ H := fun pins s k I =>
  wpAny_Assign_Name (thn (q pins s k I) fun v s1 ⟨y, H1, I1, r1, q1⟩ => store_ok I1 hN hi hx r1 (fun s2 I2 => ⟨_, H1, I2, q1⟩) hf) hs
end

/-! ### exceptions, ends -/
/-- an exception: its class, its own fields -/
structure Exn where
  C : Addr
  ns : List Str
  ds : List Dat
def DenX (K : PySem.W.Frag) (G H : Hp) (x : Exn) (d : Option Addr) : Prop := (x.ns = [] ∧ x.ds = []) ∨ ∃ dd vs, d = some dd ∧ G dd = some (.xd (x.ns.zip vs)) ∧ DenL K G x.ds vs
inductive Out where
  | nx (τ : TEnv) | rt (d : Dat) | bk (τ : TEnv) | ct (τ : TEnv) | ex (x : Exn) (τ : TEnv)
abbrev RK := Out → Mem → Prop
abbrev PK' := Dat → Mem → Prop
abbrev XKx := Exn → Mem → Prop
section
variable (K : PySem.W.Frag)
def CE' (G : Hp) (M : Mem) (H : Hp) (P : PK') (Q : VK) : Prop := ∀ d M2 v G2 H2, P d M2 → Stp G M H G2 M2 H2 → Hst K G2 M2 H2 → Den K G2 d v → Q v H2
def CT' (G : Hp) (M : Mem) (H : Hp) (P : Bool → Mem → Prop) (Q : Bool → Hp → Prop) : Prop := ∀ b M2 G2 H2, P b M2 → Stp G M H G2 M2 H2 → Hst K G2 M2 H2 → Q b H2
def CA' (G : Hp) (M : Mem) (H : Hp) (P : List Dat → Mem → Prop) (Q : List V → Hp → Prop) : Prop := ∀ ds M2 vs G2 H2, P ds M2 → Stp G M H G2 M2 H2 → Hst K G2 M2 H2 → DenL K G2 ds vs → Q vs H2
def CX' (G : Hp) (M : Mem) (H : Hp) (E : XKx) (T : Value → Option Addr → Hp → Prop) : Prop := ∀ x M2 G2 H2 d, E x M2 → Stp G M H G2 M2 H2 → Hst K G2 M2 H2 → DenX K G2 H2 x d → T (.ref x.C) d H2
def OutOk (G2 H2 : Hp) (D : Ends) (W : WX) : Out → Prop
  | .nx τ => ∀ σ, DenE K τ G2 σ → D.nx σ H2
  | .rt d => ∀ v, Den K G2 d v → D.rt v H2
  | .bk τ => ∀ σ, DenE K τ G2 σ → D.bk σ H2
  | .ct τ => ∀ σ, DenE K τ G2 σ → D.ct σ H2
  | .ex x τ => ∀ σ d, DenE K τ G2 σ → DenX K G2 H2 x d → W (.ref x.C) d σ H2
def CS' (G : Hp) (M : Mem) (H : Hp) (R : RK) (D : Ends) (W : WX) : Prop := ∀ o M2 G2 H2, R o M2 → Stp G M H G2 M2 H2 → Hst K G2 M2 H2 → OutOk K G2 H2 D W o
/-- the target of a store -/
def CG' (G : Hp) (M : Mem) (H : Hp) (P : TEnv → Mem → Prop) (Q : L2.St → Hp → Prop) : Prop := ∀ τ M2 G2 H2 σ, P τ M2 → Stp G M H G2 M2 H2 → Hst K G2 M2 H2 → DenE K τ G2 σ → Q σ H2
end
section
variable {K : PySem.W.Frag} {G G1 H H1 : Hp} {M M1 : Mem}
theorem CE'.step {P : PK'} {Q : VK} (c : CE' K G M H P Q) (s : Stp G M H G1 M1 H1) : CE' K G1 M1 H1 P Q := fun d M2 v G2 H2 p s2 h dv => c d M2 v G2 H2 p (s.trans s2) h dv
theorem CT'.step {P : Bool → Mem → Prop} {Q : Bool → Hp → Prop} (c : CT' K G M H P Q) (s : Stp G M H G1 M1 H1) : CT' K G1 M1 H1 P Q := fun d M2 G2 H2 p s2 h => c d M2 G2 H2 p (s.trans s2) h
theorem CA'.step {P : List Dat → Mem → Prop} {Q : List V → Hp → Prop} (c : CA' K G M H P Q) (s : Stp G M H G1 M1 H1) : CA' K G1 M1 H1 P Q := fun d M2 v G2 H2 p s2 h dv => c d M2 v G2 H2 p (s.trans s2) h dv
theorem CX'.step {E : XKx} {T : Value → Option Addr → Hp → Prop} (c : CX' K G M H E T) (s : Stp G M H G1 M1 H1) : CX' K G1 M1 H1 E T := fun x M2 G2 H2 d p s2 h dv => c x M2 G2 H2 d p (s.trans s2) h dv
theorem CS'.step {R : RK} {D : Ends} {W : WX} (c : CS' K G M H R D W) (s : Stp G M H G1 M1 H1) : CS' K G1 M1 H1 R D W := fun o M2 G2 H2 p s2 h => c o M2 G2 H2 p (s.trans s2) h
theorem CG'.step {P : TEnv → Mem → Prop} {Q : L2.St → Hp → Prop} (c : CG' K G M H P Q) (s : Stp G M H G1 M1 H1) : CG' K G1 M1 H1 P Q := fun d M2 v G2 H2 p s2 h dv => c d M2 v G2 H2 p (s.trans s2) h dv
end

/-! ### the judgements: in the slots τ and the cells M, e gives a value and cells that P takes, or lets out what E takes -/
structure EX (X : Cx) (T : Bool) (e : Expr) (τ : TEnv) (M : Mem) (P : PK') (E : XKx) : Prop where
  run : ∀ W, Takes X W → ∀ σ G H, DenE X.K τ G σ → Hst X.K G M H → ∀ Q, CE' X.K G M H P Q → CX' X.K G M H E (fun c d H2 => W c d σ H2) → tW X T e σ H Q
structure ET (X : Cx) (T : Bool) (e : Expr) (τ : TEnv) (M : Mem) (P : Bool → Mem → Prop) (E : XKx) : Prop where
  run : ∀ W, Takes X W → ∀ σ G H, DenE X.K τ G σ → Hst X.K G M H → ∀ Q, CT' X.K G M H P Q → CX' X.K G M H E (fun c d H2 => W c d σ H2) → tWT X T e σ H Q
structure EA (X : Cx) (T : Bool) (es : List Expr) (τ : TEnv) (M : Mem) (P : List Dat → Mem → Prop) (E : XKx) : Prop where
  run : ∀ W, Takes X W → ∀ σ G H, DenE X.K τ G σ → Hst X.K G M H → ∀ Q, CA' X.K G M H P Q → CX' X.K G M H E (fun c d H2 => W c d σ H2) → tWA X T es σ H Q
structure WS (X : Cx) (T : Bool) (ss : List Stmt) (τ : TEnv) (M : Mem) (R : RK) : Prop where
  run : ∀ W, Takes X W → ∀ σ G H, DenE X.K τ G σ → Hst X.K G M H → ∀ D, CS' X.K G M H R D W → tWSs X T ss D σ H
/-- a value is stored at a target -/
structure GX (X : Cx) (T : Bool) (tg : Expr) (d : Dat) (τ : TEnv) (M : Mem) (P : TEnv → Mem → Prop) (E : XKx) : Prop where
  run : ∀ W, Takes X W → ∀ σ G H v, DenE X.K τ G σ → Hst X.K G M H → Den X.K G d v → ∀ Q, CG' X.K G M H P Q → CX' X.K G M H E (fun c d H2 => W c d σ H2) → tWG X T tg v σ H Q
/-- operations by values -/
def OP (X : Cx) (T : Bool) (f : Value → Value → Sem Value) (x y : Dat) (M : Mem) (P : PK') : Prop :=
  ∀ G H v u, Hst X.K G M H → Den X.K G x v → Den X.K G y u → ∀ Q, CE' X.K G M H P Q → rW X T f v u H Q
def BC (X : Cx) (f : Value) (ds : List Dat) (M : Mem) (P : PK') : Prop :=
  ∃ r, CallR X f r ∧ ∀ G H vs, Hst X.K G M H → DenL X.K G ds vs → ∀ Q, CE' X.K G M H P Q → r vs H Q
abbrev E0' : XKx := fun _ _ => False
theorem noX {K : PySem.W.Frag} {G H : Hp} {M : Mem} {T : Value → Option Addr → Hp → Prop} : CX' K G M H E0' T := fun _ _ _ _ _ h => h.elim

section
variable {X : Cx} {T : Bool} {τ : TEnv} {M : Mem} {P : PK'} {E : XKx} {e a b c : Expr} {es : List Expr} {pos : Pos}
/-- weakening -/
theorem EX.imp {P' : PK'} {E' : XKx} (h : EX X T e τ M P' E') (hp : ∀ d M2, P' d M2 → P d M2) (hx : ∀ x M2, E' x M2 → E x M2) : EX X T e τ M P E :=
  .mk fun W tk σ G H hE hH Q hP hX => h.run W tk σ G H hE hH Q (fun d M2 v G2 H2 p => hP d M2 v G2 H2 (hp _ _ p)) (fun x M2 G2 H2 d p => hX x M2 G2 H2 d (hx _ _ p))
theorem EX.nox (h : EX X T e τ M P E0') : EX X T e τ M P E := h.imp (fun _ _ p => p) fun _ _ p => p.elim
theorem ET.nox {P : Bool → Mem → Prop} (h : ET X T e τ M P E0') : ET X T e τ M P E := .mk fun W tk σ G H hE hH Q hP _ => h.run W tk σ G H hE hH Q hP noX
/-! ### names and constants -/
theorem ex_at {i : Nat} {x : Str} {d : Dat} (hN : X.N[i]? = some x) (hv : Vis X.env.scope x) (ht : τ[i]? = some (some d)) (h : P d M) (hd : (x == ("__debug__" : Str)) = false := by decide) (hcd : (x == ("__classdict__" : Str)) = false := by decide) :
    EX X T (.Name x pos) τ M P E := .mk fun W tk σ G H hE hH Q hP hX => by
  obtain ⟨v, h1, h2⟩ := hE i d ht
  exact tW_of (pe_var hN hv hd hcd) ⟨v, h1, hP d M v G H h Stp.refl hH h2⟩
/-- the place of a name -/
def ixIn (N : List Str) (x : Str) : Nat := N.findIdx (· == x)
theorem ex_var {x : Str} {d : Dat} (ht : X.N[ixIn X.N x]? = some x ∧ τ[ixIn X.N x]? = some (some d)) (h : P d M) (hv : Vis X.env.scope x := by first | exact Or.inl rfl | exact Or.inr (Or.inl rfl) | exact Or.inr (Or.inr rfl))
    (hd : (x == ("__debug__" : Str)) = false := by decide) (hcd : (x == ("__classdict__" : Str)) = false := by decide) : EX X T (.Name x pos) τ M P E := ex_at ht.1 hv ht.2 h hd hcd
theorem ex_c {v : V} {d : Dat} (hp : PE X e (tC v)) (hd : ∀ G, Den X.K G d v) (h : P d M) : EX X T e τ M P E := .mk fun W tk σ G H hE hH Q hP hX => tW_of hp (hP d M v G H h Stp.refl hH (hd G))
theorem ex_int {i j pos} (h : P (.int i) M) : EX X T (.Constant (.int i) j pos) τ M P E := ex_c pe_int (fun _ => den_int) h
theorem ex_bl {i j pos} (h : P (.bl i) M) : EX X T (.Constant (.bool i) j pos) τ M P E := ex_c pe_bl (fun _ => den_bl) h
theorem ex_non {j pos} (h : P .non M) : EX X T (.Constant .none j pos) τ M P E := ex_c pe_non (fun _ => den_non) h
theorem ex_str {i j pos} (h : P (.str i) M) : EX X T (.Constant (.str i) j pos) τ M P E := ex_c pe_str (fun _ => den_str) h
theorem ex_gstr {x : Str} {z : Str} {t : Tok} (hm : X.mg x = some (.str z t)) (h : P (.str z) M) (hg : Gl X x := by rfl) (hd : (x == ("__debug__" : Str)) = false := by decide) : EX X T (.Name x pos) τ M P E := ex_c (pe_glob (v := .str z) hg hm ⟨t, rfl⟩ hd) (fun _ => den_str) h
theorem ex_gref {x : Str} {q : Addr} (hm : X.mg x = some (.ref q)) (h : P (.raw (.ref q)) M) (hg : Gl X x := by rfl) (hd : (x == ("__debug__" : Str)) = false := by decide) : EX X T (.Name x pos) τ M P E := ex_c (pe_glob (v := .ref q) hg hm rfl hd) (fun _ => den_raw) h

/-! ### operators -/
theorem ex_bin {op : Operator} (h : EX X T a τ M (fun x M1 => EX X T b τ M1 (fun y M2 => OP X T (binaryOp op) x y M2 P) E) E) : EX X T (.BinOp a op b pos) τ M P E := by
  refine .mk ?_; intro W tk σ G H hE hH Q hP hX
  refine w_bin ?_
  refine h.run W tk σ G H hE hH _ ?_ hX
  intro x M1 v G1 H1 hb s1 h1 dx
  refine hb.run W tk σ G1 H1 (hE.up s1.gg) h1 _ ?_ (hX.step s1)
  intro y M2 u G2 H2 ho s2 h2 dy
  exact ho G2 H2 v u h2 (dx.up s2.gg) dy Q (hP.step (s1.trans s2))
theorem ex_cmp {op : CmpOp} (h : EX X T a τ M (fun x M1 => EX X T b τ M1 (fun y M2 => OP X T (compareOp op) x y M2 P) E) E) (hm : behindInMarks op b = false := by first | exact nomark _ | rfl) : EX X T (.Compare a [op] [b] pos) τ M P E := by
  refine .mk ?_; intro W tk σ G H hE hH Q hP hX
  refine w_cmp hm ?_
  refine h.run W tk σ G H hE hH _ ?_ hX
  intro x M1 v G1 H1 hb s1 h1 dx
  refine hb.run W tk σ G1 H1 (hE.up s1.gg) h1 _ ?_ (hX.step s1)
  intro y M2 u G2 H2 ho s2 h2 dy
  exact ho G2 H2 v u h2 (dx.up s2.gg) dy Q (hP.step (s1.trans s2))
theorem op_of {f : Value → Value → Sem Value} {r : R2} {x y : Dat} (ho : OpR X f r) (h : ∀ G H v u, Hst X.K G M H → Den X.K G x v → Den X.K G y u → ∀ Q, CE' X.K G M H P Q → r v u H Q) : OP X T f x y M P :=
  fun G H v u hH dx dy Q hP => rW_of ho (h G H v u hH dx dy Q hP)
theorem op_II {f : Value → Value → Sem Value} {g : Int → Int → V} {i j : Int} {d : Dat} (ho : OpR X f (rI0 g)) (hd : ∀ G, Den X.K G d (g i j)) (h : P d M) : OP X T f (.int i) (.int j) M P :=
  op_of ho fun G H v u hH dx dy Q hP => ⟨i, j, dx.int_inv, dy.int_inv, hP _ _ _ _ _ h Stp.refl hH (hd G)⟩
theorem op_IIc {f : Value → Value → Sem Value} {C : Int → Int → Prop} {g : Int → Int → V} {i j : Int} {d : Dat} (ho : OpR X f (rI C g)) (hc : C i j) (hd : ∀ G, Den X.K G d (g i j)) (h : P d M) : OP X T f (.int i) (.int j) M P :=
  op_of ho fun G H v u hH dx dy Q hP => ⟨i, j, dx.int_inv, dy.int_inv, hc, hP _ _ _ _ _ h Stp.refl hH (hd G)⟩
theorem o_add {i j : Int} (h : P (.int (i + j)) M) : OP X T (binaryOp .Add) (.int i) (.int j) M P := op_II op_add (fun _ => den_int) h
theorem o_sub {i j : Int} (h : P (.int (i - j)) M) : OP X T (binaryOp .Sub) (.int i) (.int j) M P := op_II op_sub (fun _ => den_int) h
theorem o_lt {i j : Int} (h : P (.bl (decide (i < j))) M) : OP X T (compareOp .Lt) (.int i) (.int j) M P := op_II op_lt (fun _ => den_bl) h
theorem o_le {i j : Int} (h : P (.bl (decide (i ≤ j))) M) : OP X T (compareOp .LtE) (.int i) (.int j) M P := op_II op_le (fun _ => den_bl) h
theorem o_gt {i j : Int} (h : P (.bl (decide (j < i))) M) : OP X T (compareOp .Gt) (.int i) (.int j) M P := op_II op_gt (fun _ => den_bl) h
theorem o_ge {i j : Int} (h : P (.bl (decide (j ≤ i))) M) : OP X T (compareOp .GtE) (.int i) (.int j) M P := op_II op_ge (fun _ => den_bl) h

/-! ### tests -/
theorem et_val {Pb : Bool → Mem → Prop} (h : EX X T e τ M (fun d M1 => ∃ k, d = .bl k ∧ Pb k M1) E) (he : ∀ whole, isTrue e X.env whole = (do let v ← whole; standAt e.pos; holding [v] (truthy v)) := by intro _; rfl) : ET X T e τ M Pb E := by
  refine .mk ?_; intro W tk σ G H hE hH Q hP hX
  refine w_val he ?_
  refine h.run W tk σ G H hE hH _ ?_ hX
  intro d M1 v G1 H1 ⟨k, ek, hk⟩ s1 h1 dv
  subst ek
  exact ⟨k, dv.bl_inv, hP k M1 G1 H1 hk s1 h1⟩
theorem et_cmp {op : CmpOp} {Pb : Bool → Mem → Prop} (h : EX X T a τ M (fun x M1 => EX X T b τ M1 (fun y M2 => OP X T (compareOp op) x y M2 fun d M3 => ∃ k, d = .bl k ∧ Pb k M3) E) E) (hm : behindInMarks op b = false := by first | exact nomark _ | rfl) :
    ET X T (.Compare a [op] [b] pos) τ M Pb E := by
  refine .mk ?_; intro W tk σ G H hE hH Q hP hX
  refine w_cmpT hm ?_
  refine h.run W tk σ G H hE hH _ ?_ hX
  intro x M1 v G1 H1 hb s1 h1 dx
  refine hb.run W tk σ G1 H1 (hE.up s1.gg) h1 _ ?_ (hX.step s1)
  intro y M2 u G2 H2 ho s2 h2 dy
  refine ho G2 H2 v u h2 (dx.up s2.gg) dy _ ?_
  intro d M3 w G3 H3 ⟨k, ek, hk⟩ s3 h3 dw
  subst ek
  exact ⟨k, dw.bl_inv, hP k M3 G3 H3 hk ((s1.trans s2).trans s3) h3⟩
theorem et_not {Pb : Bool → Mem → Prop} (h : ET X T a τ M (fun k M1 => Pb (!k) M1) E) : ET X T (.UnaryOp .Not a pos) τ M Pb E := by
  refine .mk ?_; intro W tk σ G H hE hH Q hP hX
  refine w_not ?_
  refine h.run W tk σ G H hE hH _ ?_ hX
  intro k M1 G1 H1 hk s1 h1
  exact hP _ M1 G1 H1 hk s1 h1
/-- and, or: the rest -/
structure EW (X : Cx) (T : Bool) (e : Expr) (τ : TEnv) (M : Mem) (P : Bool → Mem → Prop) (E : XKx) : Prop where
  run : ∀ W, Takes X W → ∀ σ G H, DenE X.K τ G σ → Hst X.K G M H → ∀ Q, CT' X.K G M H P Q → CX' X.K G M H E (fun c d H2 => W c d σ H2) → tWW X T e σ H Q
theorem ew_and1 {Pb : Bool → Mem → Prop} (h : ET X T a τ M Pb E) : EW X T (.BoolOp .And [a] pos) τ M Pb E := .mk fun W tk σ G H hE hH Q hP hX => w_and1 (h.run W tk σ G H hE hH Q hP hX)
theorem ew_or1 {Pb : Bool → Mem → Prop} (h : ET X T a τ M Pb E) : EW X T (.BoolOp .Or [a] pos) τ M Pb E := .mk fun W tk σ G H hE hH Q hP hX => w_or1 (h.run W tk σ G H hE hH Q hP hX)
theorem ew_and {Pb : Bool → Mem → Prop} {rest : List Expr} (h : ET X T a τ M (fun k M1 => (k = true → EW X T (.BoolOp .And (b :: rest) pos) τ M1 Pb E) ∧ (k = false → Pb false M1)) E) : EW X T (.BoolOp .And (a :: b :: rest) pos) τ M Pb E := by
  refine .mk ?_; intro W tk σ G H hE hH Q hP hX
  refine w_and ?_
  refine h.run W tk σ G H hE hH _ ?_ hX
  intro k M1 G1 H1 ⟨h1, h2⟩ s1 hs1
  cases k with
  | true => exact iteT ((h1 rfl).run W tk σ G1 H1 (hE.up s1.gg) hs1 Q (hP.step s1) (hX.step s1))
  | false => exact iteF (hP _ _ _ _ (h2 rfl) s1 hs1)
theorem ew_or {Pb : Bool → Mem → Prop} {rest : List Expr} (h : ET X T a τ M (fun k M1 => (k = true → Pb true M1) ∧ (k = false → EW X T (.BoolOp .Or (b :: rest) pos) τ M1 Pb E)) E) : EW X T (.BoolOp .Or (a :: b :: rest) pos) τ M Pb E := by
  refine .mk ?_; intro W tk σ G H hE hH Q hP hX
  refine w_or ?_
  refine h.run W tk σ G H hE hH _ ?_ hX
  intro k M1 G1 H1 ⟨h1, h2⟩ s1 hs1
  cases k with
  | true => exact iteT (hP _ _ _ _ (h1 rfl) s1 hs1)
  | false => exact iteF ((h2 rfl).run W tk σ G1 H1 (hE.up s1.gg) hs1 Q (hP.step s1) (hX.step s1))
theorem et_w {Pb : Bool → Mem → Prop} (h : EW X T e τ M Pb E) : ET X T e τ M Pb E := .mk fun W tk σ G H hE hH Q hP hX => by
  have := h.run W tk σ G H hE hH Q hP hX
  exact fun pins s k I => this _ pins s k I
theorem ET.imp {P P' : Bool → Mem → Prop} {E' : XKx} (h : ET X T e τ M P' E') (hp : ∀ d M2, P' d M2 → P d M2) (hx : ∀ x M2, E' x M2 → E x M2) : ET X T e τ M P E :=
  .mk fun W tk σ G H hE hH Q hP hX => h.run W tk σ G H hE hH Q (fun d M2 G2 H2 p => hP d M2 G2 H2 (hp _ _ p)) (fun x M2 G2 H2 d p => hX x M2 G2 H2 d (hx _ _ p))
/-- as values -/
theorem ex_and1 {op} (h : EX X T a τ M P E) : EX X T (.BoolOp op [a] pos) τ M P E := .mk fun W tk σ G H hE hH Q hP hX => v_one (h.run W tk σ G H hE hH Q hP hX)
theorem ex_and {rest : List Expr} (h : EX X T a τ M (fun d M1 => ∃ k, d = .bl k ∧ (k = true → EX X T (.BoolOp .And (b :: rest) pos) τ M1 P E) ∧ (k = false → P (.bl false) M1)) E) : EX X T (.BoolOp .And (a :: b :: rest) pos) τ M P E := by
  refine .mk ?_; intro W tk σ G H hE hH Q hP hX
  refine v_and ?_
  refine h.run W tk σ G H hE hH _ ?_ hX
  intro d M1 v G1 H1 ⟨k, ek, h1, h2⟩ s1 hs1 dv
  subst ek
  refine ⟨k, dv.bl_inv, ?_⟩
  cases k with
  | true => exact iteT ((h1 rfl).run W tk σ G1 H1 (hE.up s1.gg) hs1 Q (hP.step s1) (hX.step s1))
  | false => exact iteF (hP _ _ _ _ _ (h2 rfl) s1 hs1 den_bl)
theorem ex_not (h : EX X T a τ M (fun d M1 => ∃ k, d = .bl k ∧ P (.bl (!k)) M1) E) : EX X T (.UnaryOp .Not a pos) τ M P E := by
  refine .mk ?_; intro W tk σ G H hE hH Q hP hX
  refine v_not ?_
  refine h.run W tk σ G H hE hH _ ?_ hX
  intro d M1 v G1 H1 ⟨k, ek, h1⟩ s1 hs1 dv
  subst ek
  exact ⟨k, dv.bl_inv, hP _ _ _ _ _ h1 s1 hs1 den_bl⟩
theorem ex_if {t : Expr} (h : ET X T t τ M (fun k M1 => (k = true → EX X T a τ M1 P E) ∧ (k = false → EX X T b τ M1 P E)) E) : EX X T (.IfExp t a b pos) τ M P E := by
  refine .mk ?_; intro W tk σ G H hE hH Q hP hX
  refine v_if ?_
  refine h.run W tk σ G H hE hH _ ?_ hX
  intro k M1 G1 H1 ⟨h1, h2⟩ s1 hs1
  cases k with
  | true => exact iteT ((h1 rfl).run W tk σ G1 H1 (hE.up s1.gg) hs1 Q (hP.step s1) (hX.step s1))
  | false => exact iteF ((h2 rfl).run W tk σ G1 H1 (hE.up s1.gg) hs1 Q (hP.step s1) (hX.step s1))

/-! ### arguments, displays -/
theorem ea_nil {P : List Dat → Mem → Prop} (h : P [] M) : EA X T [] τ M P E := .mk fun W tk σ G H hE hH Q hP hX => tWA_of pa_nil (hP _ _ _ _ _ h Stp.refl hH .nil)
theorem ea_cons {P : List Dat → Mem → Prop} (h : EX X T e τ M (fun d M1 => EA X T es τ M1 (fun ds M2 => P (d :: ds) M2) E) E) (hs : starEach (e :: es) X.env = (false, eval e X.env) :: starEach es X.env := by rfl) : EA X T (e :: es) τ M P E := by
  refine .mk ?_; intro W tk σ G H hE hH Q hP hX
  refine wa_cons hs ?_
  refine h.run W tk σ G H hE hH _ ?_ hX
  intro d M1 v G1 H1 hb s1 h1 dv
  refine hb.run W tk σ G1 H1 (hE.up s1.gg) h1 _ ?_ (hX.step s1)
  intro ds M2 vs G2 H2 ho s2 h2 dvs
  exact hP (d :: ds) M2 (v :: vs) G2 H2 ho (s1.trans s2) h2 (.cons (dv.up s2.gg) dvs)
theorem v_tup {x1} {σ : L2.St} {H : Hp} {Q : VK} (q : tWA X T es σ H fun xs H1 => xs.length ≤ sizeLine ∧ ∀ p, H1 p = none → Q (.ref p) (upd H1 p (.tup xs))) : tW X T (.Tuple es x1 pos) σ H Q := fun pins s k I =>
  wpAny_Tuple_spliced (thn (q pos pins s k I) fun us s1 ⟨xs, H1, I1, r, z, q1⟩ => ⟨by rw [← r.length]; exact z, by
    have hf : H1 s1.heap.objs.size = none := I1.hok.fresh (Nat.le_refl _)
    exact ⟨.ref s1.heap.objs.size, upd H1 s1.heap.objs.size (.tup xs), I1.laid (t' := s1.toks) (fun b u e => Heap.get?_push_of_some _ e) (Nat.le_refl _) ⟨z, us, r, ⟨_, Heap.get?_push_size _ rfl, rfl, _, rfl⟩⟩, rfl, q1 _ hf⟩⟩)
theorem v_lst {σ : L2.St} {H : Hp} {Q : VK} (q : tWA X T es σ H fun xs H1 => xs.length ≤ sizeLine ∧ ∀ p, H1 p = none → Q (.ref p) (upd H1 p (.lst xs))) : tW X T (.List es pos) σ H Q := fun pins s k I =>
  wpAny_List_spliced (thn (q pos pins s k I) fun us s1 ⟨xs, H1, I1, r, z, q1⟩ => ⟨by rw [← r.length]; exact z, by
    have hf : H1 s1.heap.objs.size = none := I1.hok.fresh (Nat.le_refl _)
    exact ⟨.ref s1.heap.objs.size, upd H1 s1.heap.objs.size (.lst xs), I1.laid (t' := s1.toks) (fun b u e => Heap.get?_push_of_some _ e) (Nat.le_refl _) ⟨z, us, 0, r, Heap.get?_push_size _ rfl⟩, rfl, q1 _ hf⟩⟩)
theorem ex_tup {x1} (h : EA X T es τ M (fun ds M1 => ds.length ≤ sizeLine ∧ P (.tup ds) M1) E) : EX X T (.Tuple es x1 pos) τ M P E := by
  refine .mk ?_; intro W tk σ G H hE hH Q hP hX
  refine v_tup ?_
  refine h.run W tk σ G H hE hH _ ?_ hX
  intro ds M1 vs G1 H1 ⟨hl, hp⟩ s1 h1 dvs
  refine ⟨by rw [dvs.length]; exact hl, fun p hp' => ?_⟩
  obtain ⟨s2, h2⟩ := Stp.new (o := .tup vs) h1 hp'
  exact hP _ _ _ _ _ hp (s1.trans s2) h2 (den_tup upd_same (dvs.up s2.gg))
theorem ex_lst (h : EA X T es τ M (fun ds M1 => ds.length ≤ sizeLine ∧ P (.lst ds) M1) E) : EX X T (.List es pos) τ M P E := by
  refine .mk ?_; intro W tk σ G H hE hH Q hP hX
  refine v_lst ?_
  refine h.run W tk σ G H hE hH _ ?_ hX
  intro ds M1 vs G1 H1 ⟨hl, hp⟩ s1 h1 dvs
  refine ⟨by rw [dvs.length]; exact hl, fun p hp' => ?_⟩
  obtain ⟨s2, h2⟩ := Stp.new (o := .lst vs) h1 hp'
  exact hP _ _ _ _ _ hp (s1.trans s2) h2 (den_lst upd_same (dvs.up s2.gg))
/-! ### calls of built-ins -/
theorem ex_callB {x : Str} {p : Pos} {id : String} (hm : X.mg x = none) (hv : bootBuiltins x = some (.builtin id)) (h : EA X T (e :: es) τ M (fun ds M1 => BC X (.builtin id) ds M1 P) E) (hg : Gl X x := by rfl) (hn : x ≠ "__name__" := by decide) (hdb : (x == ("__debug__" : Str)) = false := by decide)
    (he : starEach (e :: es) X.env = (false, eval e X.env) :: starEach es X.env := by rfl) (hpl : (backTo pos (starEach es X.env)).any (·.1) = false := by rfl) : EX X T (.Call (.Name x p) (e :: es) [] pos) τ M P E := by
  refine .mk ?_; intro W tk σ G H hE hH Q hP hX pins s k I
  have hA := h.run W tk σ G H hE hH (fun vs H1 => ∃ r, CallR X (.builtin id) r ∧ r vs H1 Q) (fun ds M1 vs G1 H1 ⟨r, hr, hb⟩ s1 h1 dvs => ⟨r, hr, hb G1 H1 vs h1 dvs Q (hP.step s1)⟩) hX
  refine wpAny_Call_Name_kw (ld_blt I hg hm hv ?_ hn hdb)
  exact PyProof.Rows.callWith_builtin1 (thn (hA pos pins s k I) fun us s1 ⟨vs, H1, I1, r1, r, hr, q1⟩ => hr pins s1 σ H1 vs us Q I1 r1 q1) he hpl
theorem ex_callTy {x : Str} {p : Pos} {T' : String} (hm : X.mg x = none) (hv : bootBuiltins x = some (.type T')) (h : EA X T (e :: es) τ M (fun ds M1 => BC X (.type T') ds M1 P) E) (hg : Gl X x := by rfl) (hn : x ≠ "__name__" := by decide) (hdb : (x == ("__debug__" : Str)) = false := by decide)
    (he : starEach (e :: es) X.env = (false, eval e X.env) :: starEach es X.env := by rfl) (hpl : (backTo pos (starEach es X.env)).any (·.1) = false := by rfl) : EX X T (.Call (.Name x p) (e :: es) [] pos) τ M P E := by
  refine .mk ?_; intro W tk σ G H hE hH Q hP hX pins s k I
  have hA := h.run W tk σ G H hE hH (fun vs H1 => ∃ r, CallR X (.type T') r ∧ r vs H1 Q) (fun ds M1 vs G1 H1 ⟨r, hr, hb⟩ s1 h1 dvs => ⟨r, hr, hb G1 H1 vs h1 dvs Q (hP.step s1)⟩) hX
  refine wpAny_Call_Name_kw (ld_blt I hg hm hv ?_ hn hdb)
  exact PyProof.Rows.callWith_type1 (thn (hA pos pins s k I) fun us s1 ⟨vs, H1, I1, r1, r, hr, q1⟩ => hr pins s1 σ H1 vs us Q I1 r1 q1) he hpl
end

/-! ### statements -/
/-- what follows the statements of a suite -/
def thenR (k : TEnv → Mem → Prop) (R : RK) : RK
  | .nx τ, M => k τ M
  | o, M => R o M
/-- a loop's body -/
def loopR (N k : TEnv → Mem → Prop) (R : RK) : RK
  | .nx τ, M => N τ M
  | .ct τ, M => N τ M
  | .bk τ, M => k τ M
  | .rt d, M => R (.rt d) M
  | .ex x τ, M => R (.ex x τ) M
section
variable {X : Cx} {T : Bool} {τ : TEnv} {M : Mem} {R : RK} {e a b c : Expr} {es : List Expr} {pos : Pos} {rest : List Stmt}
theorem ex_out {K : PySem.W.Frag} {G H : Hp} {D : Ends} {W : WX} {σ : L2.St} (hP : CS' K G M H R D W) (hE : DenE K τ G σ) : CX' K G M H (fun x M' => R (.ex x τ) M') (fun c d H2 => W c d σ H2) :=
  fun x M2 G2 H2 d r s h dx => hP _ _ _ _ r s h σ d (hE.up s.gg) dx
theorem ws_nil (h : R (.nx τ) M) : WS X T [] τ M R := .mk fun W tk σ G H hE hH D hR => tWSs_of pss_nil (hR _ _ _ _ h Stp.refl hH σ hE)
/-- a statement by its own rule, the rest behind it -/
theorem ws_step {st : Stmt} {t : TS} {D : Ends} {σ : L2.St} {H : Hp} (h : PS X st t) (q : t { D with nx := tWSs X T rest D } σ H) : tWSs X T (st :: rest) D σ H := ws_step' (tWS_of h q)
theorem ws_ret (h : EX X T e τ M (fun d M1 => R (.rt d) M1) (fun x M1 => R (.ex x τ) M1)) : WS X T (.Return (some e) pos :: rest) τ M R := .mk fun W tk σ G H hE hH D hR =>
  ws_step' (s_ret <| h.run W tk σ G H hE hH _ (fun d M2 v G2 H2 r s h2 dv => hR _ _ _ _ r s h2 v dv) (ex_out hR hE))
theorem ws_expr (h : EX X T e τ M (fun _ M1 => WS X T rest τ M1 R) (fun x M1 => R (.ex x τ) M1)) (hs : swapsWith e none pos.line X.env = pure false := by rfl) : WS X T (.Expr e pos :: rest) τ M R := .mk fun W tk σ G H hE hH D hR =>
  ws_step' (s_expr hs <| h.run W tk σ G H hE hH _ (fun d M2 v G2 H2 r s h2 dv => r.run W tk σ G2 H2 (hE.up s.gg) h2 D (hR.step s)) (ex_out hR hE))
/-- x = e -/
theorem ws_set {x : Str} {p : Pos} (h : EX X T e τ M (fun d M1 => WS X T rest (τ.set (ixIn X.N x) (some d)) M1 R) (fun x M1 => R (.ex x τ) M1)) (hi : X.N[ixIn X.N x]? = some x := by rfl) (hx : Loc X.env.scope x := by first | exact Or.inl rfl | exact Or.inr rfl) (hN : X.N.Nodup := by first | decide +kernel | exact of_decide_eq_true (by kernel_rfl))
    (hs : swapsWith e (some (.Name x p)) pos.line X.env = pure false := by rfl) (hf : X.fn x = true ∨ X.env.scope.names.lookup x = some .local := by first | exact .inl rfl | exact .inr rfl | assumption) : WS X T (.Assign [.Name x p] e pos :: rest) τ M R := .mk fun W tk σ G H hE hH D hR => tWSs_len fun hl =>
  ws_step' (s_set hN hi hx hs hf <| h.run W tk σ G H hE hH _ (fun d M2 v G2 H2 r s h2 dv => by
    have hlt : ixIn X.N x < σ.length := by rw [hl]; exact (List.getElem?_eq_some_iff.mp hi).1
    exact r.run W tk _ G2 H2 ((hE.up s.gg).set hlt dv) h2 D (hR.step s)) (ex_out hR hE))
theorem ws_if {t : Expr} {p q : List Stmt} (h : ET X T t τ M (fun k M1 => (k = true → WS X T p τ M1 (thenR (fun τ' M' => WS X T rest τ' M' R) R)) ∧ (k = false → WS X T q τ M1 (thenR (fun τ' M' => WS X T rest τ' M' R) R))) (fun x M1 => R (.ex x τ) M1)) :
    WS X T (.If t p q pos :: rest) τ M R := .mk fun W tk σ G H hE hH D hR => by
  refine ws_step' (s_if ?_)
  refine h.run W tk σ G H hE hH _ ?_ (ex_out hR hE)
  intro k M1 G1 H1 ⟨h1, h2⟩ s1 hs1
  have fin : CS' X.K G1 M1 H1 (thenR (fun τ' M' => WS X T rest τ' M' R) R) { D with nx := tWSs X T rest D } W := fun o M2 G2 H2 r s2 hs2 => by
    cases o with
    | nx τ' => exact fun σ' hE' => r.run W tk σ' G2 H2 hE' hs2 D (hR.step (s1.trans s2))
    | rt d => exact hR _ _ _ _ r (s1.trans s2) hs2
    | bk τ' => exact hR _ _ _ _ r (s1.trans s2) hs2
    | ct τ' => exact hR _ _ _ _ r (s1.trans s2) hs2
    | ex x τ' => exact hR _ _ _ _ r (s1.trans s2) hs2
  cases k with
  | true => exact iteT ((h1 rfl).run W tk σ G1 H1 (hE.up s1.gg) hs1 _ fin)
  | false => exact iteF ((h2 rfl).run W tk σ G1 H1 (hE.up s1.gg) hs1 _ fin)
/-- tg = e, any target -/
theorem ws_asg {tg : Expr} (h : EX X T e τ M (fun d M1 => GX X T tg d τ M1 (fun τ2 M2 => WS X T rest τ2 M2 R) (fun x M2 => R (.ex x τ) M2)) (fun x M1 => R (.ex x τ) M1))
    (hs : swapsWithSole [tg] e pos.line X.env = pure false := by rfl) (hw : swappedStores [tg] e X.env = pure none := by rfl) (h1 : (assignEach [tg] X.env).map (·.2) = [assign tg X.env] := by rfl) : WS X T (.Assign [tg] e pos :: rest) τ M R := .mk fun W tk σ G H hE hH D hR =>
  ws_step' (s_asg hs hw h1 <| h.run W tk σ G H hE hH _ (fun d M2 v G2 H2 r s h2 dv =>
    r.run W tk σ G2 H2 v (hE.up s.gg) h2 dv _ (fun τ3 M3 G3 H3 σ3 r3 s3 h3 e3 => r3.run W tk σ3 G3 H3 e3 h3 D (hR.step (s.trans s3))) ((ex_out hR hE).step s)) (ex_out hR hE))
/-! ### targets -/
theorem gx_name {x : Str} {p : Pos} {d : Dat} {P : TEnv → Mem → Prop} {E : XKx} (h : P (τ.set (ixIn X.N x) (some d)) M) (hi : X.N[ixIn X.N x]? = some x := by rfl) (hx : Loc X.env.scope x := by first | exact Or.inl rfl | exact Or.inr rfl) (hN : X.N.Nodup := by first | decide +kernel | exact of_decide_eq_true (by kernel_rfl))
    (hf : X.fn x = true ∨ X.env.scope.names.lookup x = some .local := by first | exact .inl rfl | exact .inr rfl | assumption) : GX X T (.Name x p) d τ M P E := .mk fun W tk σ G H v hE hH dv Q hP hX => tWG_len fun hl => by
  refine tWG_of (pg_name hN hi hx hf) ?_
  have hlt : ixIn X.N x < σ.length := by rw [hl]; exact (List.getElem?_eq_some_iff.mp hi).1
  exact hP _ _ _ _ _ h Stp.refl hH (hE.set hlt dv)
end
end Kh

set_option Elab.async false
set_option linter.all false
set_option maxRecDepth 100000
set_option maxHeartbeats 1000000
namespace Kh
open PySem PySem.Spec L2
open PyProof.Rows (isTrue_plain)

/-! ### what a def promises -/
/-- the arguments, the cells it is told of; what is wanted of its value and the cells behind it; of what it lets out -/
abbrev Spc := List Dat → Mem → PK' → XKx → Prop
def toSp (K : PySem.W.Frag) (S : Spc) : Sp := fun vs H Q E => ∃ G ds M P PE, DenL K G ds vs ∧ Hst K G M H ∧ S ds M P PE ∧ CE' K G M H P Q ∧ CX' K G M H PE E
abbrev FnD (P : Program) (w : World) (K : PySem.W.Frag) (mg : Str → Option Value) (base : Heap) (k : Nat) (f : Addr) (fd : FuncData) (ps : List Str) (S : Spc) : Prop := FnOk P w K mg base (L2.CX P w) k f fd ps (toSp K S)
/-- a part of the cells is handed to the def, the rest stays -/
def AP (S : Spc) (ds : List Dat) (M : Mem) (P : PK') (E : XKx) : Prop :=
  ∃ Mc Mr, M.Perm (Mc ++ Mr) ∧ S ds Mc (fun d Mc2 => ∃ M2, (Mc2 ++ Mr).Perm M2 ∧ P d M2) (fun x Mc2 => ∃ M2, (Mc2 ++ Mr).Perm M2 ∧ E x M2)
theorem ap_toSp {K : PySem.W.Frag} {S : Spc} {ds : List Dat} {M : Mem} {P : PK'} {E : XKx} {G H : Hp} {vs : List V} {Q : VK} {T : XK} (h : AP S ds M P E) (dv : DenL K G ds vs) (hH : Hst K G M H) (hP : CE' K G M H P Q) (hX : CX' K G M H E T) : toSp K S vs H Q T := by
  obtain ⟨Mc, Mr, pm, hs⟩ := h
  have hH' := hH.perm pm
  refine ⟨G, ds, Mc, _, _, dv, hH'.left, hs, ?_, ?_⟩
  · intro d Mc2 v G2 H2 ⟨M2, p2, hp⟩ s h2 dd
    obtain ⟨s3, h3⟩ := Stp.frame hH' s h2
    exact hP d M2 v G2 H2 hp (s3.perm pm.symm p2) (h3.perm p2) dd
  · intro x Mc2 G2 H2 d ⟨M2, p2, hp⟩ s h2 dd
    obtain ⟨s3, h3⟩ := Stp.frame hH' s h2
    exact hX x M2 G2 H2 d hp (s3.perm pm.symm p2) (h3.perm p2) dd

/-- the ends of a def -/
def retR (P : PK') (E : XKx) : RK
  | .rt d, M => P d M
  | .nx _, M => P .non M
  | .ex x _, M => E x M
  | _, _ => False
def startT (N : List Str) (ds : List Dat) : TEnv := ds.map some ++ List.replicate (N.length - ds.length) none
theorem denE_start {K : PySem.W.Frag} {G : Hp} {N : List Str} {ds : List Dat} {vs : List V} (h : DenL K G ds vs) : DenE K (startT N ds) G (L2.start N vs) := fun i d e => by
  unfold startT at e
  have hi : i < ds.length := by
    by_cases hi : i < ds.length
    · exact hi
    · rw [List.getElem?_append_right (by simpa using hi), List.getElem?_replicate] at e
      split at e <;> cases e
  rw [List.getElem?_append_left (by simpa using hi), List.getElem?_map] at e
  cases q : ds[i]? with
  | none => rw [q] at e; cases e
  | some d' =>
    rw [q] at e; cases e
    obtain ⟨v, h1, h2⟩ := h.get q
    refine ⟨v, ?_, h2⟩
    unfold L2.start
    rw [List.getElem?_append_left (by rw [List.length_map, h.length]; exact hi), List.getElem?_map, h1]
    rfl
theorem cs_ret {K : PySem.W.Frag} {G H : Hp} {M : Mem} {P : PK'} {E : XKx} {Q : VK} {W : WX} (hP : CE' K G M H P Q) (hX : CX' K G M H E (fun c d H2 => ∀ σ, W c d σ H2)) : CS' K G M H (retR P E) { nx := fun _ H' => Q .non H', rt := Q } W := fun o M2 G2 H2 r s h => by
  cases o with
  | nx τ => exact fun σ _ => hP _ _ _ _ _ r s h den_non
  | rt d => exact fun v dv => hP _ _ _ _ _ r s h dv
  | bk τ => exact r.elim
  | ct τ => exact r.elim
  | ex x τ => exact fun σ d _ dx => hX _ _ _ _ _ r s h dx σ
section
variable {P : Program} {w : World} {K : PySem.W.Frag} {mg : Str → Option Value} {base : Heap}
/-- binding parameters, one of them a local: a token is out behind it -/
theorem bind_toks {M : Model} {A : Around} {E : Value → Shared → Prop} {s₀ : Shared} {env : Env} (f : Str × Value → PUnit → Sem (ForInStep PUnit)) (hf : ∀ n v u, f (n, v) u = (do storeName env n v; pure (.yield ⟨⟩))) (hk : env.scope.kind = .function) :
    ∀ (bs : List (Str × Value)) (m cm : Str → Option Value) (s : Shared) (Q : PUnit → Shared → Prop), InCallC s₀ env.locals m env.cells cm s →
      (∀ x ∈ bs, env.kindOf x.1 = some .local ∨ (env.kindOf x.1 = some .cell ∧ (env.cells.lookup x.1).isSome = true)) → (∃ x ∈ bs, env.kindOf x.1 = some .local) →
      (∀ s', 1 ≤ s'.toks → InCallC s₀ env.locals (bindL env.kindOf bs m) env.cells (bindC env.kindOf bs cm) s' → Q ⟨⟩ s') → wpAny M A (forIn bs ⟨⟩ f) Q E s
  | [], m, cm, s, Q, x, _, ⟨y, hy, _⟩, h => by cases hy
  | (n, v) :: r, m, cm, s, Q, x, kinds, he, h => by
    rw [List.forIn_cons, hf]
    have kr : ∀ y ∈ r, env.kindOf y.1 = some .local ∨ (env.kindOf y.1 = some .cell ∧ (env.cells.lookup y.1).isSome = true) := fun y hy => kinds y (List.mem_cons_of_mem _ hy)
    rcases kinds (n, v) List.mem_cons_self with hl | ⟨hl, hc⟩
    · refine wpAny_bind (wpAny_bind (wpAny_storeName_local hl x.toInCall.ns (fun h' hn' hs' => wpAny_pure ?_) (by rw [hk]; rfl)))
      have x' : InCallC s₀ env.locals (fun y => if y = n then some v else m y) env.cells cm { s with heap := h', toks := s.toks + 1 } := by
        refine ⟨⟨?_, hn', fun b o e => ?_, x.toInCall.fresh⟩, fun k c hc => ?_, x.apart, x.above⟩
        · obtain ⟨h₁, tk, rfl⟩ := x.toInCall.same
          exact ⟨h', _, rfl⟩
        · exact hs'.extBut b o (Nat.ne_of_lt (Nat.lt_of_lt_of_le (Heap.lt_size e) x.toInCall.fresh)) (x.toInCall.keep b o e)
        · exact (x.cell k c hc).sameBut hs' (Nat.ne_of_gt (x.above k c (mem_of_lookup hc)))
      refine wpAny_with_toks (n := 1) (show 1 ≤ s.toks + 1 by omega) ?_
      refine wpAny_mono (E := fun e s' => E e s') (wpAny_bindParams f hf hk r _ _ _ (fun u s'' => 1 ≤ s''.toks → Q u s'') x' kr fun s'' x'' k => h s'' k ?_) (fun _ _ q => q) fun _ _ q _ => q
      unfold bindL bindC; rw [if_pos hl, if_pos hl]; exact x''
    · obtain ⟨c, hc⟩ := Option.isSome_iff_exists.mp hc
      have hnl : ¬ env.kindOf n = some .local := by rw [hl]; decide
      have hr : ∃ y ∈ r, env.kindOf y.1 = some .local := by
        obtain ⟨y, hy, hy2⟩ := he
        rcases List.mem_cons.mp hy with rfl | hy
        · exact absurd hy2 hnl
        · exact ⟨y, hy, hy2⟩
      refine wpAny_bind (wpAny_bind (stCC x hk hl hc fun s' x' => wpAny_pure (bind_toks f hf hk r _ _ s' Q x' kr hr fun s'' k x'' => h s'' k ?_)))
      unfold bindL bindC; rw [if_neg hnl, if_neg hnl]; exact x''
theorem newEnv_toks {M : Model} {A : Around} {E : Value → Shared → Prop} {s : Shared} {scope : Scope} {globals : Addr} {bs : List (Str × Value)} {qual : Str} {func : Option Addr} {code : Value} {builtins : Addr} {Q : Env → Shared → Prop}
    (hk : scope.kind = .function)
    (kinds : ∀ x ∈ bs, scope.names.lookup x.1 = some .local ∨ (scope.names.lookup x.1 = some .cell ∧ ((cellsFrom (s.heap.objs.size + 1) scope.names []).lookup x.1).isSome = true)) (he : ∃ x ∈ bs, scope.names.lookup x.1 = some .local)
    (hQ : ∀ env, env = newEnv scope s.heap.objs.size globals (cellsFrom (s.heap.objs.size + 1) scope.names []) qual func code none builtins →
      ∀ s', 1 ≤ s'.toks → InCallC s env.locals (bindL env.kindOf bs fun _ => none) env.cells (bindC env.kindOf bs fun _ => none) s' → Q env s') :
    wpAny M A (newFunctionEnv scope globals [] bs qual func code none builtins) Q E s := by
  simp only [newFunctionEnv, Option.isSome_none, Bool.false_eq_true, if_false]
  refine wpAny_bind (wpAny_alloc (wpAny_bind (wpAny_layCells _ (fun name kind cells => by cases hkc : kind == NameKind.cell <;> simp [hkc]) _ _ _ _ ?_)))
  have ok := cellsFrom_ok scope.names (s.heap.push { cls := .type "frame", data := .dict #[] }) (s.heap.objs.size + 1) [] ⟨fun _ _ hm => (nomatch hm), List.Pairwise.nil⟩ (by rw [Heap.size_push]; exact Nat.le_refl _)
  rw [Heap.size_push] at ok
  rw [show ({ s with heap := s.heap.push { cls := .type "frame", data := .dict #[] } } : Shared).heap.objs.size = s.heap.objs.size + 1 from Heap.size_push ..]
  exact wpAny_bind (bind_toks (s₀ := s) (env := newEnv scope s.heap.objs.size globals (cellsFrom (s.heap.objs.size + 1) scope.names []) qual func code none builtins) _ (fun _ _ _ => rfl) hk bs (fun _ => none) (fun _ => none) _ _
    ⟨⟨⟨_, _, rfl⟩, (Heap.Ns.new s.heap (.type "frame")).keeps (pushCells_keeps _ _), fun b o e => pushCells_keeps _ _ b o (Heap.get?_push_of_some _ e), Nat.le_refl _⟩, fun n c hc => (ok.empty n c (mem_of_lookup hc)).1, ok.apart, fun n c hm => (ok.empty n c hm).2⟩
    kinds he fun s' k x => wpAny_pure (hQ _ rfl s' k x))
/-- a body, at its entry: with T where a parameter is a local -/
theorem fn_w {CX : CXT} {k : Nat} {f : Addr} {name qual : Str} {params : Arguments} {body : List Stmt} {scope : Scope} {dV kV doc pm cdv ct oc : Value} {an od : Option Addr} {T : Bool}
    {osl : Array (Option Value)} {N ps : List Str} {sp : Sp} (lk : K.lookup f = some ⟨oc, od, .func (PySem.W.fnOf name qual params body scope dV kV doc pm an cdv ct), osl⟩) (hcd : PySem.W.codeIn K cdv qual = true) (S : FnScope N ps scope) (hT : T = true → ∃ x ∈ ps, scope.names.lookup x = some .local)
    (len : ∀ vs H Q E, sp vs H Q E → vs.length = ps.length)
    (hbody : ∀ (A : Around) (outer : List Env) (s : Shared) (H : Hp) (vs : List V) (Q : VK) (E : XK), Room k (A.deeper (PyProof.Rows.envOfC qual scope s.heap.objs.size f cdv)) → sp vs H Q E →
      tWSs (cxOf CX P w K mg base N qual scope f cdv A outer s H E) T body { nx := fun _ H' => Q .non H', rt := Q } (L2.start N vs) H) :
    FnOk P w K mg base CX (k + 1) f (PySem.W.fnOf name qual params body scope dV kV doc pm an cdv ct) ps sp := by
  refine ⟨len, fun A outer s H args us vs Q E hr e0 hb r hsp => ?_⟩
  have hl := len _ _ _ _ hsp
  have KX : K.In s.heap := e0.mod.kin.keeps fun b o e => (e0.bs b o e).1
  have lim : s.heap.NoLimit := e0.mod.nolimit.keeps fun b o e => (e0.bs b o e).1
  have kinds : ∀ y ∈ ps.zip us, scope.names.lookup y.1 = some .local ∨ (scope.names.lookup y.1 = some .cell ∧ ((cellsFrom (s.heap.objs.size + 1) scope.names []).lookup y.1).isSome = true) := fun ⟨n, v⟩ hy => by
    rcases S.par n (List.of_mem_zip hy).1 with q | q
    · exact .inl q
    · exact .inr ⟨q, PySem.W.cellsFrom_some _ _ _ (.inl q)⟩
  refine codeAny_call_function hr.depth (KX _ _ lk) rfl S.co S.gen rfl (PySem.W.codeRec_of KX hcd) (hb _ _ _ _ ?_)
  have main : ∀ env, env = newEnv scope s.heap.objs.size mainGlobals (cellsFrom (s.heap.objs.size + 1) scope.names []) (qual ++ ".<locals>.") (some f) cdv none builtinsNs → ∀ s1, Tk T s1 → InCallC s env.locals (bindL env.kindOf (ps.zip us) fun _ => none) env.cells (bindC env.kindOf (ps.zip us) fun _ => none) s1 →
      s1.heap.NoLimit ∧ codeAny (model P w) A (.func body env) (CR CX outer P w H s Q E) s1 := by
    intro env he s1 hk x
    subst he
    refine ⟨lim.keeps x.toInCall.keep, codeAny_func ?_⟩
    have ht := hbody A outer s H vs Q E (hr.deeper _) hsp
    have I : Inv (cxOf CX P w K mg base N qual scope f cdv A outer s H E) [] (L2.start N vs) H s1 := inv_start S hr.hd e0 hl r x
    refine wpAny_mono (ht [] s1 hk I) (fun fl s' hs => ?_) fun e s' hs => hs
    cases fl with
    | ret u =>
      obtain ⟨v, σ', H', J, rv, q⟩ := hs
      exact ⟨v, H', J.os, J.bare, J.base, J.hok, rv, q⟩
    | next =>
      obtain ⟨σ', H', J, q⟩ := hs
      exact ⟨V.non, H', J.os, J.bare, J.base, J.hok, (rfl : Value.none = Value.none), q⟩
    | brk => obtain ⟨_, _, _, q⟩ := hs; exact False.elim q
    | cont => obtain ⟨_, _, _, q⟩ := hs; exact False.elim q
  cases T with
  | false => exact wpAny_newFunctionEnv_cells S.kind kinds fun env he s1 x => main env he s1 tk_f x
  | true =>
    refine newEnv_toks S.kind kinds ?_ fun env he s1 k x => main env he s1 (fun _ => k) x
    obtain ⟨x, hx, h2⟩ := hT rfl
    obtain ⟨i, hi, e⟩ := List.getElem_of_mem hx
    have hul : us.length = ps.length := by rw [← r.length, hl]
    exact ⟨(ps[i], us[i]'(by omega)), List.mem_of_getElem? (i := i) (by rw [List.getElem?_zip_eq_some]; exact ⟨List.getElem?_eq_getElem hi, List.getElem?_eq_getElem _⟩), by rw [e]; exact h2⟩
/-- THE RULE for a def that may raise (or not) -/
theorem fn_d {x qual : Str} {st : Stmt} {f : Addr} {fd : FuncData} {N ps : List Str} {k : Nat} {S : Spc} (T : Bool) (F : Fun K x qual st f fd) (Sc : FnScope N ps (defScope st)) (hT : T = true → ∃ x ∈ ps, (defScope st).names.lookup x = some .local) (len : ∀ ds M P E, S ds M P E → ds.length = ps.length)
    (body : ∀ (cdv : Value) (A : Around) (outer : List Env) (s : Shared) (H : Hp) (E : XK), Room k (A.deeper (PyProof.Rows.envOfC qual (defScope st) s.heap.objs.size f cdv)) → ∀ ds M Pd PE, S ds M Pd PE →
      WS (cxOf (L2.CX P w) P w K mg base N qual (defScope st) f cdv A outer s H E) T (defBody st) (startT N ds) M (retR Pd PE)) : FnD P w K mg base (k + 1) f fd ps S := by
  obtain ⟨oc, od, kV, doc, pm, an, cdv, ct, osl, rfl, lk, hcd⟩ := F.ex
  refine fn_w (T := T) lk hcd Sc hT (fun vs H Q E h => ?_) (fun A outer s H vs Q E hr h => ?_)
  · obtain ⟨G, ds, M, Pd, PE, dv, _, hs, _⟩ := h
    rw [dv.length]; exact len _ _ _ _ hs
  · obtain ⟨G, ds, M, Pd, PE, dv, hH, hs, hP, hX⟩ := h
    exact (body cdv A outer s H E hr ds M Pd PE hs).run _ (takes_of rfl rfl rfl rfl) _ G H (denE_start dv) hH _ (cs_ret hP fun x M2 G2 H2 d p s h dx σ => hX x M2 G2 H2 d p s h dx)
/-- the law's own def: nothing leaves it -/
theorem fn_law {x qual : Str} {st : Stmt} {f : Addr} {fd : FuncData} {N ps : List Str} {k : Nat} {S : Spc} (T : Bool) (F : Fun K x qual st f fd) (Sc : FnScope N ps (defScope st)) (hT : T = true → ∃ x ∈ ps, (defScope st).names.lookup x = some .local) (len : ∀ ds M P E, S ds M P E → ds.length = ps.length)
    (body : ∀ (cdv : Value) (A : Around) (outer : List Env) (s : Shared) (H : Hp), Room k (A.deeper (PyProof.Rows.envOfC qual (defScope st) s.heap.objs.size f cdv)) → ∀ ds M Pd PE, S ds M Pd PE →
      WS (cxOf CX0 P w K mg base N qual (defScope st) f cdv A outer s H L2.E0).nox T (defBody st) (startT N ds) M (retR Pd E0')) : FnOk P w K mg base CX0 (k + 1) f fd ps (toSp K S) := by
  obtain ⟨oc, od, kV, doc, pm, an, cdv, ct, osl, rfl, lk, hcd⟩ := F.ex
  refine fn_w (T := T) lk hcd Sc hT (fun vs H Q E h => ?_) (fun A outer s H vs Q E hr h => ?_)
  · obtain ⟨G, ds, M, Pd, PE, dv, _, hs, _⟩ := h
    rw [dv.length]; exact len _ _ _ _ hs
  · obtain ⟨G, ds, M, Pd, PE, dv, hH, hs, hP, hX⟩ := h
    intro pins s1 tk I
    have q := (body cdv A outer s H hr ds M Pd PE hs).run _ takes0 _ G H (denE_start dv) hH _ (cs_ret hP fun x M2 G2 H2 d p => p.elim) pins s1 tk (I.wish _)
    exact wpAny_mono q (fun _ _ z => z.unwish) fun _ _ z => False.elim z
end

/-! ### calls -/
section
variable {X : Cx} {T : Bool} {τ : TEnv} {M : Mem} {P : PK'} {E : XKx} {e o a b c : Expr} {es : List Expr} {pos p apos : Pos} {k : Nat} {f C : Addr} {fd : FuncData} {ps : List Str} {S : Spc} {dvs : List V} {df : List Dat} {dsv : List Value} {x m : Str}
theorem run_d {pins : List (Addr × Obj)} {σ : L2.St} {H : Hp} {s : Shared} {Q : VK} {us : List Value} {vs : List V} {W : WX} (F : FnD X.prog X.w X.K X.mg X.base k f fd ps S) (hr : Room k X.A) (hb : Binds X.K fd ps dsv) (hd : Vals dvs dsv) (tk : Takes X W)
    (I : Inv X pins σ H s) (r : Vals vs us) (h : toSp X.K S (vs ++ dvs) H Q (fun c d H2 => W c d σ H2)) : wpAny (model X.prog X.w) X.A (call (.ref f) us) (EP X pins σ Q) X.xe s :=
  run_fnSD (E := fun σ c d H2 => W c d σ H2) F hr hb hd (fun pins H s e s' I c => tk e s' (XE.of_call I (fun cls d H' h => h) c)) I r h
/-- f(e, ..) -/
theorem ex_call (F : FnD X.prog X.w X.K X.mg X.base k f fd ps S) (hr : Room k X.A) (hm : X.mg x = some (.ref f)) (hk : PySem.W.keepIn X.K (.ref f) = true) (hb : Binds X.K fd ps dsv) (hd : Vals dvs dsv) (hdf : ∀ G, DenL X.K G df dvs)
    (h : EA X T (e :: es) τ M (fun ds M1 => AP S (ds ++ df) M1 P E) E) (hg : Gl X x := by rfl) (hdb : (x == ("__debug__" : Str)) = false := by decide) (he : starEach (e :: es) X.env = (false, eval e X.env) :: starEach es X.env := by rfl) (hpl : (backTo pos (starEach es X.env)).any (·.1) = false := by rfl) :
    EX X T (.Call (.Name x p) (e :: es) [] pos) τ M P E := by
  refine .mk ?_; intro W tk σ G H hE hH Q hP hX pins s k0 I
  refine wpAny_Call_Name_kw (ld_glob I hg hm ?_ hdb)
  have hA := h.run W tk σ G H hE hH (fun vs H1 => toSp X.K S (vs ++ dvs) H1 Q (fun c d H2 => W c d σ H2)) (fun ds M1 vs G1 H1 ha s1 h1 dv => ap_toSp ha (dv.append (hdf G1)) h1 (hP.step s1) (hX.step s1)) hX
  refine PySem.W.callWith_K (h₀ := X.base) I.ok.mod.kin hk (thn (hA pos pins s k0 I) fun us s1 ⟨vs, H1, I1, r, q⟩ => ⟨I1.kIn, ?_⟩) he hpl
  exact run_d F hr hb hd tk I1 r q
/-- an instance of the class at C without a field m -/
def IsI (C : Addr) (m : Str) (M : Mem) (d : Dat) : Prop := (∃ ns ds, d = .obj C ns ds ∧ m ∉ ns) ∨ ∃ p dx fs, d = .raw (.ref p) ∧ (p, MC.ins C dx fs) ∈ M ∧ m ∉ fs.map (·.1)
theorem lookup_none_of {α : Type} : ∀ {l : List (Str × α)} {m : Str}, m ∉ l.map (·.1) → l.lookup m = none
  | [], _, _ => rfl
  | (n, v) :: r, m, h => by
    have h1 : (m == n) = false := by
      cases q : m == n with
      | false => rfl
      | true => exact absurd (List.mem_map.mpr ⟨(n, v), List.mem_cons_self, (eq_of_beq q).symm⟩) h
    rw [List.lookup_cons, h1]
    exact lookup_none_of fun z => h (List.mem_cons_of_mem _ z)
theorem zip_fst_sub {α β : Type} {a : α} : ∀ {l : List α} {r : List β}, a ∈ (l.zip r).map (·.1) → a ∈ l
  | [], _, h => by simp at h
  | _ :: _, [], h => by simp at h
  | x :: l, y :: r, h => by
    rw [List.zip_cons_cons, List.map_cons] at h
    rcases List.mem_cons.mp h with e | h
    · exact List.mem_cons.mpr (.inl e)
    · exact List.mem_cons_of_mem _ (zip_fst_sub h)
theorem IsI.get {K : PySem.W.Frag} {G H : Hp} {d : Dat} {v : V} (h : IsI C m M d) (hH : Hst K G M H) (dv : Den K G d v) : ∃ a dx fs, v = .ref a ∧ H a = some (.ins C dx fs) ∧ fs.lookup m = none := by
  rcases h with ⟨ns, ds, rfl, hm⟩ | ⟨q, dx, fs, rfl, hq, hm⟩
  · obtain ⟨a, dx, vs, rfl, h1, h2, h3⟩ := dv.obj_inv
    exact ⟨a, dx, _, rfl, hH.sub _ _ h1, lookup_none_of fun z => hm (zip_fst_sub z)⟩
  · obtain ⟨vs, h1, h2, h3⟩ := hH.mem _ hq
    exact ⟨q, dx, vs, dv.raw_inv, h1, lookup_none_of fun z => hm (by rw [← h3.1]; exact z)⟩
/-- a field of an instance -/
def FldI (K : PySem.W.Frag) (n : Str) (M : Mem) (d z : Dat) : Prop := ∃ C, Cls K C ∧ NoAttr K C n ∧ ((∃ ns ds, d = .obj C ns ds ∧ ns.length = ds.length ∧ (ns.zip ds).lookup n = some z) ∨ ∃ p dx fs, d = .raw (.ref p) ∧ (p, MC.ins C dx fs) ∈ M ∧ fs.lookup n = some z)
theorem denL_lookup {K : PySem.W.Frag} {G : Hp} : ∀ {ns : List Str} {ds : List Dat} {vs : List V} {n : Str} {z : Dat}, DenL K G ds vs → (ns.zip ds).lookup n = some z → ∃ v, (ns.zip vs).lookup n = some v ∧ Den K G z v
  | [], _, _, _, _, _, h => by simp at h
  | _ :: _, [], _, _, _, _, h => by simp at h
  | y :: ns, d :: ds, _, n, z, q, h => by
    obtain ⟨v, r, rfl, hv, t⟩ := q.cons_inv
    rw [List.zip_cons_cons, List.lookup_cons] at h ⊢
    cases e : n == y with
    | true => rw [e] at h; cases h; exact ⟨v, rfl, hv⟩
    | false => rw [e] at h; exact denL_lookup t h
theorem denF_lookup {K : PySem.W.Frag} {G : Hp} : ∀ {fs : List (Str × Dat)} {vs : List (Str × V)} {n : Str} {z : Dat}, DenF K G fs vs → fs.lookup n = some z → ∃ v, vs.lookup n = some v ∧ Den K G z v
  | [], _, _, _, _, h => by simp at h
  | (y, d) :: fs, [], _, _, q, h => by have := q.1; simp at this
  | (y, d) :: fs, (y', v) :: vs, n, z, q, h => by
    obtain ⟨h1, h2⟩ := q
    rw [List.map_cons, List.map_cons] at h1
    obtain ⟨e1, e2⟩ := List.cons.inj h1
    have e1 : y' = y := e1
    subst e1
    obtain ⟨v', r, e, hv, t⟩ := (show DenL K G (d :: fs.map (·.2)) (v :: vs.map (·.2)) from h2).cons_inv
    obtain ⟨rfl, rfl⟩ := List.cons.inj e
    rw [List.lookup_cons] at h ⊢
    cases e : n == y' with
    | true => rw [e] at h; cases h; exact ⟨v, rfl, hv⟩
    | false => rw [e] at h; exact denF_lookup ⟨e2, t⟩ h
theorem v_fld {n : Str} {σ : L2.St} {H : Hp} {Q : VK} (hb : attributeBase e n X.env (eval e X.env) = eval e X.env) (q : tW X T e σ H fun x H1 => ∃ a C dx fs v, x = .ref a ∧ H1 a = some (.ins C dx fs) ∧ Cls X.K C ∧ NoAttr X.K C n ∧ fs.lookup n = some v ∧ Q v H1) :
    tW X T (.Attribute e n pos) σ H Q := fun pins s k0 I =>
  attr_of hb (thn (q pins s k0 I) fun u s1 ⟨x, H1, I1, rx, a, C, dx, fs, v, ex, ea, hc, hn, l, q⟩ => by
    subst ex
    obtain rfl : u = Value.ref a := rx
    exact getattr_ok I1 ea hc hn l fun u' s2 I2 ru => ⟨v, H1, I2, ru, q⟩)
theorem ex_fld {n : Str} (h : EX X T e τ M (fun d M1 => ∃ z, FldI X.K n M1 d z ∧ P z M1) E) (hb : attributeBase e n X.env (eval e X.env) = eval e X.env := by rfl) : EX X T (.Attribute e n pos) τ M P E := by
  refine .mk ?_; intro W tk σ G H hE hH Q hP hX
  refine v_fld hb ?_
  refine h.run W tk σ G H hE hH _ ?_ hX
  intro d M1 v G1 H1 ⟨z, ⟨C, hc, hn, hz⟩, hp⟩ s1 h1 dv
  rcases hz with ⟨ns, ds, rfl, hl, hz⟩ | ⟨q, dx, fs, rfl, hq, hz⟩
  · obtain ⟨a, dx, vs, rfl, g1, g2, g3⟩ := dv.obj_inv
    obtain ⟨u, l1, l2⟩ := denL_lookup g3 hz
    exact ⟨a, C, dx, _, u, rfl, h1.sub _ _ g1, hc, hn, l1, hP _ _ _ _ _ hp s1 h1 l2⟩
  · obtain ⟨vs, g1, g2, g3⟩ := h1.mem _ hq
    obtain ⟨u, l1, l2⟩ := denF_lookup g3 hz
    exact ⟨q, C, dx, vs, u, dv.raw_inv, g1, hc, hn, l1, hP _ _ _ _ _ hp s1 h1 l2⟩
/-! ### new instances -/
theorem hst_new {K : PySem.W.Frag} {G H : Hp} {x dx C : Addr} (h : Hst K G M H) (hx : H x = none) (hdx : H dx = none) (ne : dx ≠ x) :
    Hst K G ((x, .ins C dx []) :: M) (upd (upd H dx (.own x)) x (.ins C dx [])) ∧ Stp G M H G ((x, .ins C dx []) :: M) (upd (upd H dx (.own x)) x (.ins C dx [])) := by
  have nM : ∀ b ∈ adr M, b ≠ x ∧ b ≠ dx := fun b hb => ⟨fun e => h.there b hb (by rw [e]; exact hx), fun e => h.there b hb (by rw [e]; exact hdx)⟩
  have kp : ∀ b o, H b = some o → (upd (upd H dx (.own x)) x (.ins C dx [])) b = some o := fun b o e => by
    rw [upd_ne (ne_of_none e hx), upd_ne (ne_of_none e hdx)]; exact e
  have ha : adr ((x, MC.ins C dx []) :: M) = x :: dx :: adr M := rfl
  refine ⟨⟨fun b o e => kp b o (h.sub b o e), fun c hc => ?_, fun b hb => ?_, ?_⟩, ⟨Same.refl _, fun b o _ e => kp b o e, fun _ _ _ g => g, fun b hb => ?_⟩⟩
  · rcases List.mem_cons.mp hc with rfl | hc
    · exact ⟨[], upd_same, by rw [upd_ne ne]; exact upd_same, rfl, .nil⟩
    · exact (h.mem c hc).up (Same.refl _) fun b hb o e => kp b o e
  · rw [ha] at hb
    rcases List.mem_cons.mp hb with rfl | hb
    · exact h.sub.free hx
    · rcases List.mem_cons.mp hb with rfl | hb
      · exact h.sub.free hdx
      · exact h.out b hb
  · rw [ha]
    refine List.nodup_cons.mpr ⟨fun hm => ?_, List.nodup_cons.mpr ⟨fun hm => (nM dx hm).2 rfl, h.nd⟩⟩
    rcases List.mem_cons.mp hm with e | hm
    · exact ne e.symm
    · exact (nM x hm).1 rfl
  · rw [ha] at hb
    rcases List.mem_cons.mp hb with rfl | hb
    · exact .inr hx
    · rcases List.mem_cons.mp hb with rfl | hb
      · exact .inr hdx
      · exact .inl hb
theorem zip_map {α β : Type} : ∀ (l : List (α × β)), (l.map (·.1)).zip (l.map (·.2)) = l
  | [] => rfl
  | (a, b) :: l => by simp only [List.map_cons, List.zip_cons_cons, zip_map l]
/-- a cell of an instance is changed no more -/
theorem freezeI {K : PySem.W.Frag} {G H : Hp} {x dx C : Addr} {fs : List (Str × Dat)} (h : Hst K G ((x, .ins C dx fs) :: M) H) : ∃ G', Stp G ((x, .ins C dx fs) :: M) H G' M H ∧ Hst K G' M H ∧ Den K G' (.obj C (fs.map (·.1)) (fs.map (·.2))) (.ref x) := by
  obtain ⟨vs, h1, h2, h3, h4⟩ := h.mem _ List.mem_cons_self
  have ha : adr ((x, MC.ins C dx fs) :: M) = x :: dx :: adr M := rfl
  have gx : G x = none := h.out x (by rw [ha]; exact List.mem_cons_self)
  have gdx : G dx = none := h.out dx (by rw [ha]; exact List.mem_cons_of_mem _ List.mem_cons_self)
  have nd := h.nd
  rw [ha] at nd
  obtain ⟨n1, n2⟩ := List.nodup_cons.mp nd
  obtain ⟨n3, n4⟩ := List.nodup_cons.mp n2
  have ne : dx ≠ x := fun e => n1 (by rw [e]; exact List.mem_cons_self)
  have up : Same G (upd (upd G dx (.own x)) x (.ins C dx vs)) := fun b o e => by rw [upd_ne (ne_of_none e gx), upd_ne (ne_of_none e gdx)]; exact e
  have sub : Same (upd (upd G dx (.own x)) x (.ins C dx vs)) H := fun b o e => by
    by_cases c : b = x
    · subst c; rw [upd_same] at e; cases e; exact h1
    · rw [upd_ne c] at e
      by_cases c : b = dx
      · subst c; rw [upd_same] at e; cases e; exact h2
      · rw [upd_ne c] at e; exact h.sub b o e
  refine ⟨_, ⟨up, fun _ _ _ e => e, fun b _ hb g => ?_, fun b hb => .inl (by rw [ha]; exact List.mem_cons_of_mem _ (List.mem_cons_of_mem _ hb))⟩, ⟨sub, fun c hc => (h.mem c (List.mem_cons_of_mem _ hc)).up up fun _ _ _ e => e, fun b hb => ?_, n4⟩, ?_⟩
  · rw [ha] at hb
    rw [upd_ne (fun e => hb (by rw [e]; exact List.mem_cons_self)), upd_ne (fun e => hb (by rw [e]; exact List.mem_cons_of_mem _ List.mem_cons_self))]; exact g
  · rw [upd_ne (fun e => n1 (by rw [← e]; exact List.mem_cons_of_mem _ hb)), upd_ne (fun e => n3 (by rw [← e]; exact hb))]
    exact h.out b (by rw [ha]; exact List.mem_cons_of_mem _ (List.mem_cons_of_mem _ hb))
  · simp only [Den]
    refine ⟨x, dx, vs.map (·.2), rfl, ?_, by rw [upd_ne ne]; exact upd_same, h4.up up⟩
    rw [upd_same, ← h3, zip_map]
theorem freezeL {K : PySem.W.Frag} {G H : Hp} {x : Addr} {ds : List Dat} (h : Hst K G ((x, .lst ds) :: M) H) : ∃ G', Stp G ((x, .lst ds) :: M) H G' M H ∧ Hst K G' M H ∧ Den K G' (.lst ds) (.ref x) := by
  obtain ⟨vs, h1, h4⟩ := h.mem _ List.mem_cons_self
  have ha : adr ((x, MC.lst ds) :: M) = x :: adr M := rfl
  have gx : G x = none := h.out x (by rw [ha]; exact List.mem_cons_self)
  have nd := h.nd
  rw [ha] at nd
  obtain ⟨n1, n4⟩ := List.nodup_cons.mp nd
  have up : Same G (upd G x (.lst vs)) := fun b o e => by rw [upd_ne (ne_of_none e gx)]; exact e
  have sub : Same (upd G x (.lst vs)) H := fun b o e => by
    by_cases c : b = x
    · subst c; rw [upd_same] at e; cases e; exact h1
    · rw [upd_ne c] at e; exact h.sub b o e
  refine ⟨_, ⟨up, fun _ _ _ e => e, fun b _ hb g => ?_, fun b hb => .inl (by rw [ha]; exact List.mem_cons_of_mem _ hb)⟩, ⟨sub, fun c hc => (h.mem c (List.mem_cons_of_mem _ hc)).up up fun _ _ _ e => e, fun b hb => ?_, n4⟩, den_lst upd_same (h4.up up)⟩
  · rw [ha] at hb
    rw [upd_ne (fun e => hb (by rw [e]; exact List.mem_cons_self))]; exact g
  · rw [upd_ne (fun e => n1 (by rw [← e]; exact hb))]
    exact h.out b (by rw [ha]; exact List.mem_cons_of_mem _ hb)
/-- what becomes of a new instance at x: it stays a cell, or it is frozen -/
def MadeP (P : PK') (x : Addr) (M2 : Mem) : Prop := P (.raw (.ref x)) M2 ∨ ∃ C dx fs M3, M2.Perm ((x, .ins C dx fs) :: M3) ∧ P (.obj C (fs.map (·.1)) (fs.map (·.2))) M3
theorem madeP_ce {K : PySem.W.Frag} {G H : Hp} {Q : VK} {x : Addr} (hP : CE' K G M H P Q) {M2 : Mem} {G2 H2 : Hp} (hm : MadeP P x M2) (s : Stp G M H G2 M2 H2) (h2 : Hst K G2 M2 H2) : Q (.ref x) H2 := by
  rcases hm with hm | ⟨C, dx, fs, M3, pm, hm⟩
  · exact hP _ _ _ _ _ hm s h2 den_raw
  · obtain ⟨G', s3, h3, d3⟩ := freezeI (h2.perm pm)
    exact hP _ _ _ _ _ hm ((s.perm (List.Perm.refl _) pm).trans s3) h3 d3
theorem run_makeD {pins : List (Addr × Obj)} {σ : L2.St} {H : Hp} {s : Shared} {Q : VK} {us : List Value} {vs : List V} {W : WX} (Mk' : Mk X.K C f) (F : FnD X.prog X.w X.K X.mg X.base k f fd ps S) (hr : Room (k + 1) X.A) (hb : Binds X.K fd ps dsv) (hd : Vals dvs dsv)
    (tk : Takes X W) (I : Inv X pins σ H s) (r : Vals vs us)
    (h : ∀ x dx, H x = none → H dx = none → dx ≠ x → toSp X.K S (.ref x :: (vs ++ dvs)) (upd (upd H dx (.own x)) x (.ins C dx [])) (fun v H2 => v = .non ∧ Q (.ref x) H2) (fun c d H2 => W c d σ H2)) :
    wpAny (model X.prog X.w) X.A (call (.ref C) us) (EP X pins σ Q) X.xe s := by
  have hq := h (s.heap.objs.size + 1) s.heap.objs.size (I.hok.fresh (Nat.le_succ _)) (I.hok.fresh (Nat.le_refl _)) (Nat.ne_of_lt (Nat.lt_succ_self _))
  have I2 := Inv.made (C := C) I
  have r2 : Vals (V.ref (s.heap.objs.size + 1) :: (vs ++ dvs)) (Value.ref (s.heap.objs.size + 1) :: (us ++ dsv)) := .cons rfl (r.append hd)
  have hl : (Value.ref (s.heap.objs.size + 1) :: us ++ dsv).length = ps.length := by
    have e := r2.length
    rw [F.len _ _ _ _ hq] at e
    exact e.symm
  refine wpAny_call (make_map (f := f) I.kIn Mk'.makes Mk'.init (beq_iff_eq.mp Mk'.fn) (codeAny_mono (F.run _ X.stack _ _ ⟨Value.ref (s.heap.objs.size + 1) :: us, []⟩ (Value.ref (s.heap.objs.size + 1) :: (us ++ dsv)) _ _ _ (hr.make C us [])
    (I2.env0.make C us []) (hb _ (Value.ref (s.heap.objs.size + 1) :: us) I2.kIn hl) r2 hq) fun r s' hq' => ?_))
  cases r with
  | error e => exact tk e s' (XE.of_call I2 (fun cls d H' h => h) hq')
  | ok fl =>
    cases fl with
    | ret u =>
      obtain ⟨v, H', I3, rv, ev, q3⟩ := I2.after hq'
      subst ev
      exact ⟨rv, ⟨V.ref (s.heap.objs.size + 1), H', I3, rfl, q3⟩⟩
    | next => exact False.elim hq'
    | brk => exact False.elim hq'
    | cont => exact False.elim hq'
theorem make_sp {K : PySem.W.Frag} {G H : Hp} {Q : VK} {T : XK} {ds : List Dat} {vs : List V}
    (h : ∀ x dx, x ∉ adr M → dx ∉ adr M → dx ≠ x → AP S (.raw (.ref x) :: ds) ((x, .ins C dx []) :: M) (fun d M2 => d = .non ∧ MadeP P x M2) E) (dv : DenL K G ds vs) (hH : Hst K G M H) (hP : CE' K G M H P Q) (hX : CX' K G M H E T) :
    ∀ x dx, H x = none → H dx = none → dx ≠ x → toSp K S (.ref x :: vs) (upd (upd H dx (.own x)) x (.ins C dx [])) (fun v H2 => v = .non ∧ Q (.ref x) H2) T := by
  intro x dx hx hdx ne
  obtain ⟨h1, s1⟩ := hst_new (C := C) hH hx hdx ne
  have n1 : x ∉ adr M := fun z => hH.there x z hx
  have n2 : dx ∉ adr M := fun z => hH.there dx z hdx
  refine ap_toSp (h x dx n1 n2 ne) (.cons den_raw dv) h1 (fun d M2 v G2 H2 ⟨e, hm⟩ s2 h2 dd => ?_) (hX.step s1)
  subst e
  exact ⟨dd.non_inv, madeP_ce hP hm (s1.trans s2) h2⟩
/-- C(e, ..) -/
theorem ex_make (Mk' : Mk X.K C f) (F : FnD X.prog X.w X.K X.mg X.base k f fd ps S) (hr : Room (k + 1) X.A) (hm : X.mg x = some (.ref C)) (hb : Binds X.K fd ps dsv) (hd : Vals dvs dsv) (hdf : ∀ G, DenL X.K G df dvs)
    (h : EA X T (e :: es) τ M (fun ds M1 => ∀ x dx, x ∉ adr M1 → dx ∉ adr M1 → dx ≠ x → AP S (.raw (.ref x) :: (ds ++ df)) ((x, .ins C dx []) :: M1) (fun d M2 => d = .non ∧ MadeP P x M2) E) E)
    (hg : Gl X x := by rfl) (hdb : (x == ("__debug__" : Str)) = false := by decide) (he : starEach (e :: es) X.env = (false, eval e X.env) :: starEach es X.env := by rfl) (hpl : (backTo pos (starEach es X.env)).any (·.1) = false := by rfl) :
    EX X T (.Call (.Name x p) (e :: es) [] pos) τ M P E := by
  refine .mk ?_; intro W tk σ G H hE hH Q hP hX pins s k0 I
  refine wpAny_Call_Name_kw (ld_glob I hg hm ?_ hdb)
  have hA := h.run W tk σ G H hE hH (fun vs H1 => ∀ x dx, H1 x = none → H1 dx = none → dx ≠ x → toSp X.K S (.ref x :: (vs ++ dvs)) (upd (upd H1 dx (.own x)) x (.ins C dx [])) (fun v H2 => v = .non ∧ Q (.ref x) H2) (fun c d H2 => W c d σ H2))
    (fun ds M1 vs G1 H1 ha s1 h1 dv => make_sp ha (dv.append (hdf G1)) h1 (hP.step s1) (hX.step s1)) hX
  refine PySem.W.callWith_K (h₀ := X.base) I.ok.mod.kin Mk'.kp (thn (hA pos pins s k0 I) fun us s1 ⟨vs, H1, I1, r, q⟩ => ⟨I1.kIn, ?_⟩) he hpl
  exact run_makeD Mk' F hr hb hd tk I1 r q
end
end Kh

set_option Elab.async false
set_option linter.all false
set_option maxRecDepth 100000
set_option maxHeartbeats 1000000
namespace Kh
open PySem PySem.Spec L2

/-! ### what is walked -/
/-- J gives the data ds, one after the other, as long as the cells are as Ok says; the unchanging part G1 stands -/
def WalkD (K : PySem.W.Frag) (J : It) (ds : List Dat) (G1 : Hp) (Ok : Mem → Prop) : Prop :=
  ∀ G2 M2 H2, Same G1 G2 → Hst K G2 M2 H2 → Ok M2 → (∀ i, i < ds.length → J.go i H2) ∧ J.stop ds.length H2 ∧
    ∀ i x H', i < ds.length → J.yld i H2 x H' → ∃ G', Stp G2 M2 H2 G' M2 H' ∧ Hst K G' M2 H' ∧ ∀ d, ds[i]? = some d → Den K G' d x
/-- the iterable gives ds; behind its evaluation the cells are M1 -/
structure EI (X : Cx) (tg iter : Expr) (τ : TEnv) (M : Mem) (P : List Dat → Mem → (Mem → Prop) → Prop) (E : XKx) : Prop where
  run : ∀ W, Takes X W → ∀ σ G H, DenE X.K τ G σ → Hst X.K G M H → ∀ R : It → Hp → Prop,
    (∀ J ds M1 G1 H1 Ok, P ds M1 Ok → Stp G M H G1 M1 H1 → Hst X.K G1 M1 H1 → WalkD X.K J ds G1 Ok → R J H1) → CX' X.K G M H E (fun c d H2 => W c d σ H2) → tWI X false tg iter σ H R
abbrev anyM : Mem → Prop := fun _ => True
section
variable {X : Cx} {T : Bool} {tg iter e a b c : Expr} {τ : TEnv} {M : Mem} {E : XKx} {pos p : Pos} {PI' : List Dat → Mem → (Mem → Prop) → Prop}
theorem walkD_list {K : PySem.W.Frag} {G1 : Hp} {a : Addr} {vs : List V} {ds : List Dat} (hq : SqL K G1 a vs) (hd : DenL K G1 ds vs) : WalkD K (Itl K a) ds G1 anyM := fun G2 M2 H2 s h _ => by
  have hq2 : SqL K H2 a vs := h.sub.seq (s.seq hq)
  refine ⟨fun i hi => ?_, ⟨vs, hq2, by rw [hd.length]; exact Nat.le_refl _⟩, fun i x H' hi y => ?_⟩
  · obtain ⟨v, h1, _⟩ := hd.get (List.getElem?_eq_getElem hi)
    exact ⟨vs, v, hq2, h1⟩
  · obtain ⟨rfl, y2⟩ := y
    refine ⟨G2, Stp.refl, h, fun d hd' => ?_⟩
    obtain ⟨v, h1, h2⟩ := hd.get hd'
    have := y2 vs hq2
    rw [h1] at this; cases this
    exact h2.up s
theorem ei_list (h : EX X false e τ M (fun d M1 => ∃ ds, d = .lst ds ∧ PI' ds M1 anyM) E) : EI X tg e τ M PI' E := .mk fun W tk σ G H hE hH R hR hX => by
  refine tWI_of (pi_list pe_W) ?_
  refine h.run W tk σ G H hE hH _ ?_ hX
  intro d M1 v G1 H1 ⟨ds, ed, hp⟩ s1 h1 dv
  subst ed
  obtain ⟨a, vs, rfl, hq, hd⟩ := dv.lst_inv
  exact ⟨a, rfl, ⟨vs, h1.sub.seq (SqL.of hq)⟩, hR _ _ _ _ _ _ hp s1 h1 (walkD_list (SqL.of hq) hd)⟩
def rngD (lo : Int) (n : Nat) : List Dat := (List.range n).map fun (i : Nat) => .int (lo + (i : Int))
theorem rngD_length {lo : Int} {n : Nat} : (rngD lo n).length = n := by simp [rngD]
theorem rngD_get {lo : Int} {n i : Nat} {d : Dat} (h : (rngD lo n)[i]? = some d) : d = .int (lo + (i : Int)) ∧ i < n := by
  have hi : i < n := by have := (List.getElem?_eq_some_iff.mp h).1; rwa [rngD_length] at this
  unfold rngD at h
  rw [List.getElem?_map, List.getElem?_range hi] at h
  cases h
  exact ⟨rfl, hi⟩
theorem walkD_range {K : PySem.W.Frag} {G1 : Hp} {lo : Int} {n : Nat} : WalkD K (Itr lo n) (rngD lo n) G1 anyM := fun G2 M2 H2 s h _ => by
  rw [rngD_length]
  refine ⟨fun i hi => hi, Nat.le_refl _, fun i x H' hi y => ?_⟩
  obtain ⟨rfl, rfl⟩ := y
  refine ⟨G2, Stp.refl, h, fun d hd => ?_⟩
  rw [(rngD_get hd).1]; exact den_int
/-- range(n) -/
theorem ei_range1 (hm : X.mg "range" = none) (h : EX X false a τ M (fun d M1 => ∃ j, d = .int j ∧ (-(2 ^ 62) ≤ j ∧ j < 2 ^ 62) ∧ PI' (rngD 0 j.toNat) M1 anyM) E) (hg : Gl X "range" := by rfl) (hs : starEach [a] X.env = [(false, eval a X.env)] := by rfl) : EI X tg (.Call (.Name "range" p) [a] [] pos) τ M PI' E := .mk fun W tk σ G H hE hH R hR hX => by
  refine tWI_of (pi_range1 hg hm (pa_cons pe_W pa_nil hs) hs) ?_
  refine h.run W tk σ G H hE hH _ ?_ hX
  intro d M1 v G1 H1 ⟨j, ed, hb, hp⟩ s1 h1 dv
  subst ed
  exact ⟨j, by rw [dv.int_inv], hb.1, hb.2, hR _ _ _ _ _ _ hp s1 h1 walkD_range⟩
/-- a text, sign by sign -/
def sgnD (z : Str) : List Dat := z.cps.toList.map fun c => .str ⟨#[c]⟩
theorem walkD_str {K : PySem.W.Frag} {G1 : Hp} {z : Str} : WalkD K (Its z) (sgnD z) G1 anyM := fun G2 M2 H2 s h _ => by
  have hl : (sgnD z).length = z.cps.size := by simp [sgnD]
  rw [hl]
  refine ⟨fun i hi => hi, Nat.le_refl _, fun i x H' hi y => ?_⟩
  obtain ⟨rfl, c, h1, rfl⟩ := y
  refine ⟨G2, Stp.refl, h, fun d hd => ?_⟩
  unfold sgnD at hd
  rw [List.getElem?_map, Array.getElem?_toList, h1] at hd
  cases hd
  exact den_str
theorem ei_str (h : EX X false e τ M (fun d M1 => ∃ z, d = .str z ∧ PI' (sgnD z) M1 anyM) E) : EI X tg e τ M PI' E := .mk fun W tk σ G H hE hH R hR hX => by
  refine tWI_of (pi_str pe_W) ?_
  refine h.run W tk σ G H hE hH _ ?_ hX
  intro d M1 v G1 H1 ⟨z, ed, hp⟩ s1 h1 dv
  subst ed
  exact ⟨z, dv.str_inv, hR _ _ _ _ _ _ hp s1 h1 walkD_str⟩
/-- enumerate(list) -/
def enuD (ds : List Dat) : List Dat := ds.zipIdx.map fun q => .tup [.int (q.2 : Int), q.1]
theorem enuD_length {ds : List Dat} : (enuD ds).length = ds.length := by simp [enuD]
theorem enuD_get {ds : List Dat} {i : Nat} {d : Dat} (h : (enuD ds)[i]? = some d) : ∃ x, ds[i]? = some x ∧ d = .tup [.int (i : Int), x] := by
  unfold enuD at h
  rw [List.getElem?_map, List.getElem?_zipIdx] at h
  cases e : ds[i]? with
  | none => rw [e] at h; cases h
  | some x => rw [e] at h; simp at h; exact ⟨x, rfl, h.symm⟩
theorem walkD_enum {K : PySem.W.Frag} {G1 : Hp} {a : Addr} {vs : List V} {ds : List Dat} (hq : SqL K G1 a vs) (hd : DenL K G1 ds vs) : WalkD K (Ite K a) (enuD ds) G1 anyM := fun G2 M2 H2 s h _ => by
  have hq2 : SqL K H2 a vs := h.sub.seq (s.seq hq)
  rw [enuD_length]
  refine ⟨fun i hi => ?_, ⟨vs, hq2, by rw [hd.length]; exact Nat.le_refl _⟩, fun i x H' hi y => ?_⟩
  · obtain ⟨v, h1, _⟩ := hd.get (List.getElem?_eq_getElem hi)
    exact ⟨vs, v, hq2, h1⟩
  · obtain ⟨T, x', rfl, hT, rfl, y2⟩ := y
    obtain ⟨s3, h3⟩ := Stp.new (o := .tup [.int (i : Nat), x']) h hT
    refine ⟨_, s3, h3, fun d hd' => ?_⟩
    obtain ⟨z, hz, rfl⟩ := enuD_get hd'
    obtain ⟨v, h1, h2⟩ := hd.get hz
    have := y2 vs hq2
    rw [h1] at this; cases this
    exact den_tup upd_same (.cons den_int (.cons ((h2.up s).up s3.gg) .nil))
theorem ei_enum {elts : List Expr} {kk : Nat} {tpos : Pos} (hm : X.mg "enumerate" = none) (h : EX X false e τ M (fun d M1 => ∃ ds, d = .lst ds ∧ PI' (enuD ds) M1 anyM) E) (hg : Gl X "enumerate" := by rfl) (hs : starEach [e] X.env = [(false, eval e X.env)] := by rfl) : EI X (.Tuple elts kk tpos) (.Call (.Name "enumerate" p) [e] [] pos) τ M PI' E := .mk fun W tk σ G H hE hH R hR hX => by
  refine tWI_of (pi_enum hg hm (pa_cons pe_W pa_nil hs) hs) ?_
  refine h.run W tk σ G H hE hH _ ?_ hX
  intro d M1 v G1 H1 ⟨ds, ed, hp⟩ s1 h1 dv
  subst ed
  obtain ⟨a, vs, rfl, hq, hd⟩ := dv.lst_inv
  exact ⟨a, vs, rfl, h1.sub.seq (SqL.of hq), hR _ _ _ _ _ _ hp s1 h1 (walkD_enum (SqL.of hq) hd)⟩

/-! ### for -/
theorem s_for {body : List Stmt} {σ : L2.St} {H : Hp} {D : Ends} (hp : PassesOwn (model X.prog X.w) X.A X.env X.xe) (hc : X.calm = true) (hs : ∀ x, foldedSetIterable iter X.env x = pure x)
    (q : tWI X false tg iter σ H fun J H1 => ∃ Wm : Nat → Nat → L2.St → Hp → Prop, (∃ m, Wm 0 m σ H1) ∧ ∀ i m σ H, Wm i m σ H →
      (J.stop i H ∧ D.nx σ H) ∨ (J.go i H ∧ ∃ N : L2.St → Hp → Prop, (∀ σ' H', N σ' H' → ∃ m', m' < m ∧ Wm (i + 1) m' σ' H') ∧ ∀ x H', J.yld i H x H' → tWG X T tg x σ H' fun σ2 H2 => tWSs X T body { D with nx := N, ct := N, bk := D.nx } σ2 H2)) :
    tWS X T (.For tg iter body [] pos) D σ H := fun pins s k0 I => by
  refine wpAny_For (thnT k0 (q pins s tk_f I) fun v s1 k1 h1 => thnT k1 h1 fun itv s2 k2 h2 => ?_) hs
  obtain ⟨it, fp, tn, J, H2, e, I2, Tu, st2, f2, Wm, ⟨m0, w0⟩, turn⟩ := h2
  subst e
  have stat : ∀ {H' : Hp}, (∀ b ∈ fp, H' b = none) → ∀ b ∈ fp, FpOk X pins H' b := fun hn b hb => ⟨hn b hb, (f2 b hb).2⟩
  refine codeAny_forLoop_any (fun n s' => Tk T s' ∧ ∃ i σ' H', Inv X pins σ' H' s' ∧ tn i s'.heap ∧ (∀ b ∈ fp, H' b = none) ∧ Wm i n σ' H') ?_ m0 ⟨k2, 0, σ, H2, I2, st2, fun b hb => (f2 b hb).1, w0⟩
  rintro n s3 ⟨k3, i, σ3, H3, I3, st3, fr3, w3⟩
  rcases turn i n σ3 H3 w3 with ⟨stop, qn⟩ | ⟨go, N, hN, step⟩
  · refine wpAny_passesOwn hp (thn (Tu.done X rfl rfl rfl hc i pins s3 σ3 H3 X.xe I3 (stat fr3) st3 stop) fun r s4 ⟨hr, I4⟩ => ?_)
    subst hr
    exact wpAny_execs_nil ⟨σ3, H3, I4, qn⟩
  · refine wpAny_passesOwn hp (thnT k3 (Tu.item X rfl rfl rfl hc i pins s3 σ3 H3 X.xe I3 (stat fr3) st3 go) fun r s4 k4 ⟨u, hr, h4⟩ => ?_)
    subst hr
    refine wpAny_passesOwn hp (thnT k4 h4 fun _ s5 k5 ⟨x, H5, I5, r5, y5, st5, fr5⟩ => ?_)
    have J5 := I5.pinned (stat fr5) (Tu.obj _ _ st5)
    refine wpAny_passesOwn hp (thnT k5 (step x H5 y5 _ s5 u k5 J5 r5) fun _ s6 k6 ⟨σ6, H6, I6, q6⟩ => ?_)
    refine wpAny_passesOwn hp (thnT k6 (q6 _ s6 k6 I6) fun f s7 k7 q7 => ?_)
    have pinA : ∀ {σ7 : L2.St} {H7 : Hp}, Inv X (pins ++ pinsAt fp s5.heap) σ7 H7 s7 → ∀ b ∈ fp, ∀ o, s5.heap.get? b = some o → s7.heap.get? b = some o ∧ H7 b = none := fun {σ7 H7} I7 b hb o e =>
      have z := I7.pin (b, o) (List.mem_append_right _ (List.mem_append_right _ (mem_pinsAt hb e)))
      ⟨z.1, z.2.1⟩
    have again : ∀ {σ7 : L2.St} {H7 : Hp}, Inv X (pins ++ pinsAt fp s5.heap) σ7 H7 s7 → N σ7 H7 → ∃ m, m < n ∧ (Tk T s7 ∧ ∃ i σ' H', Inv X pins σ' H' s7 ∧ tn i s7.heap ∧ (∀ b ∈ fp, H' b = none) ∧ Wm i m σ' H') := fun {σ7 H7} I7 n7 => by
      obtain ⟨m', hm, w7⟩ := hN σ7 H7 n7
      refine ⟨m', hm, k7, i + 1, σ7, H7, I7.unpinned, Tu.keep _ _ _ st5 fun b hb o e => (pinA I7 b hb o e).1, fun b hb => ?_, w7⟩
      obtain ⟨o, e, d⟩ := Tu.obj _ _ st5 b hb
      exact (pinA I7 b hb o e).2
    cases f with
    | next => obtain ⟨σ7, H7, I7, n7⟩ := q7; exact again I7 n7
    | cont => obtain ⟨σ7, H7, I7, n7⟩ := q7; exact again I7 n7
    | brk => obtain ⟨σ7, H7, I7, q7⟩ := q7; exact ⟨σ7, H7, I7.unpinned, q7⟩
    | ret u' => obtain ⟨v7, σ7, H7, I7, r7, q7⟩ := q7; exact ⟨v7, σ7, H7, I7.unpinned, r7, q7⟩
theorem ws_for {body rest : List Stmt} {R : RK} (hi : EI X tg iter τ M (fun ds M1 Ok => ∃ I : Nat → TEnv → Mem → Prop, I 0 τ M1 ∧ (∀ i τ M, I i τ M → Ok M) ∧
      (∀ i d τ M, ds[i]? = some d → I i τ M → GX X T tg d τ M (fun τ2 M2 => WS X T body τ2 M2 (loopR (I (i + 1)) (fun τ M => WS X T rest τ M R) R)) (fun x M2 => R (.ex x τ) M2)) ∧
      (∀ τ M, I ds.length τ M → WS X T rest τ M R)) (fun x M1 => R (.ex x τ) M1))
    (hp : PassesOwn (model X.prog X.w) X.A X.env X.xe := by first | exact PassesOwn.never | exact passes_of rfl | assumption) (hc : X.calm = true := by rfl) (hs : ∀ x, foldedSetIterable iter X.env x = pure x := by intro _; rfl) : WS X T (.For tg iter body [] pos :: rest) τ M R := .mk fun W tk σ G H hE hH D hR => by
  refine ws_step' (s_for hp hc hs ?_)
  refine hi.run W tk σ G H hE hH _ ?_ (ex_out hR hE)
  intro J ds M1 G1 H1 Ok ⟨I, h0, hOk, hb, hd⟩ s1 h1 w
  let Pv : Nat → L2.St → Hp → Prop := fun i σ' H' => ∃ τ' M' G', I i τ' M' ∧ DenE X.K τ' G' σ' ∧ Hst X.K G' M' H' ∧ Stp G M H G' M' H' ∧ Same G1 G'
  refine ⟨fun i m σ' H' => m = ds.length - i ∧ i ≤ ds.length ∧ Pv i σ' H', ⟨_, rfl, Nat.zero_le _, τ, M1, G1, h0, hE.up s1.gg, h1, s1, Same.refl _⟩, ?_⟩
  rintro i m σ' H' ⟨rfl, hle, τ', M', G', hI, e', h', s', g'⟩
  obtain ⟨w1, w2, w3⟩ := w G' M' H' g' h' (hOk _ _ _ hI)
  by_cases hlt : i < ds.length
  · refine .inr ⟨w1 i hlt, fun σ2 H2 => Pv (i + 1) σ2 H2, fun σ2 H2 q => ⟨ds.length - (i + 1), by omega, rfl, hlt, q⟩, fun x H2 y => ?_⟩
    obtain ⟨G2, s2, h2, dx⟩ := w3 i x H2 hlt y
    have hd' := List.getElem?_eq_getElem hlt
    refine (hb i _ τ' M' hd' hI).run W tk σ' G2 H2 x (e'.up s2.gg) h2 (dx _ hd') _ ?_ ?_
    · intro τ3 M3 G3 H3 σ3 b3 s3 h3 e3
      refine b3.run W tk σ3 G3 H3 e3 h3 _ ?_
      intro o M4 G4 H4 r4 s4 h4
      have st := ((s'.trans s2).trans s3).trans s4
      cases o with
      | nx τ4 => exact fun σ4 e4 => ⟨τ4, M4, G4, r4, e4, h4, st, ((g'.trans s2.gg).trans s3.gg).trans s4.gg⟩
      | ct τ4 => exact fun σ4 e4 => ⟨τ4, M4, G4, r4, e4, h4, st, ((g'.trans s2.gg).trans s3.gg).trans s4.gg⟩
      | bk τ4 => exact fun σ4 e4 => r4.run W tk σ4 G4 H4 e4 h4 D (hR.step st)
      | rt d4 => exact hR _ _ _ _ r4 st h4
      | ex x4 τ4 => exact hR _ _ _ _ r4 st h4
    · exact fun x4 M4 G4 H4 d4 r4 s4 h4 dx4 => hR _ _ _ _ r4 ((s'.trans s2).trans s4) h4 σ' d4 ((e'.up s2.gg).up s4.gg) dx4
  · have e : i = ds.length := by omega
    subst e
    exact .inl ⟨w2, (hd τ' M' hI).run W tk σ' G' H' e' h' D (hR.step s')⟩

/-! ### while -/
/-! ### targets of several names -/
theorem pgs_W {ts : List Expr} : PGs X ts (tWGs X false ts) := ⟨fun pins s σ H vs us Q I r h => h pins s us tk_f I r⟩
structure GXs (X : Cx) (T : Bool) (ts : List Expr) (ds : List Dat) (τ : TEnv) (M : Mem) (P : TEnv → Mem → Prop) : Prop where
  run : ∀ W, Takes X W → ∀ σ G H vs, DenE X.K τ G σ → Hst X.K G M H → DenL X.K G ds vs → ∀ Q, CG' X.K G M H P Q → tWGs X T ts vs σ H Q
theorem gxs_nil {P : TEnv → Mem → Prop} (h : P τ M) : GXs X false [] [] τ M P := .mk fun W tk σ G H vs hE hH dv Q hP pins s us _ I r => by
  rw [dv.nil_inv] at r
  exact pgs_nil.run pins s σ H [] us Q I r ⟨rfl, hP _ _ _ _ _ h Stp.refl hH hE⟩
theorem gxs_cons {t : Expr} {ts : List Expr} {d : Dat} {ds : List Dat} {P : TEnv → Mem → Prop} (h : GX X false t d τ M (fun τ1 M1 => GXs X false ts ds τ1 M1 P) E0')
    (he : (assignEach (t :: ts) X.env).map (·.2) = assign t X.env :: (assignEach ts X.env).map (·.2) := by rfl) : GXs X false (t :: ts) (d :: ds) τ M P := .mk fun W tk σ G H vs hE hH dv Q hP pins s us _ I r => by
  obtain ⟨v, vr, rfl, d1, d2⟩ := dv.cons_inv
  refine (pgs_cons pg_W pgs_W he).run pins s σ H _ us Q I r ⟨v, vr, rfl, ?_⟩
  exact h.run W tk σ G H v hE hH d1 _ (fun τ2 M2 G2 H2 σ2 p2 s2 h2 e2 => p2.run W tk σ2 G2 H2 vr e2 h2 (d2.up s2.gg) Q (hP.step s2)) noX
theorem gx_tup {es : List Expr} {k : Nat} {ds : List Dat} {P : TEnv → Mem → Prop} (h : GXs X false es ds τ M P) (hl : ds.length = (assignEach es X.env).length := by rfl) (hc : X.calm = true := by rfl)
    (hst : (assignEach es X.env).findIdx? (·.1) = none := by rfl) : GX X T (.Tuple es k pos) (.tup ds) τ M P E := .mk fun W tk σ G H v hE hH dv Q hP hX => by
  obtain ⟨a, vs, rfl, hq, hd⟩ := dv.tup_inv
  exact tWG_of (pg_tup hc pgs_W rfl hst) ⟨a, vs, rfl, Same.tpl hH.sub (SqT.of hq), by rw [hd.length, hl], h.run W tk σ G H vs hE hH hd Q hP⟩
end
end Kh

set_option Elab.async false
set_option linter.all false
set_option maxRecDepth 100000
set_option maxHeartbeats 1000000
namespace Kh
open PySem PySem.Spec L2

/-! ### slots that a comprehension wipes -/
theorem wipe_get {σ : L2.St} : ∀ {vs : List Nat} {j : Nat}, (wipe σ vs)[j]? = if j ∈ vs ∧ j < σ.length then some none else σ[j]?
  | [], j => by simp [wipe]
  | v :: vs, j => by
    show ((wipe σ vs).set v none)[j]? = _
    by_cases h : v = j
    · subst h
      by_cases hl : v < σ.length
      · rw [List.getElem?_set_self (by rw [wipe_length]; exact hl), if_pos ⟨List.mem_cons_self, hl⟩]
      · rw [if_neg (fun z => hl z.2), List.getElem?_eq_none (by rw [List.length_set, wipe_length]; omega), List.getElem?_eq_none (by omega)]
    · rw [List.getElem?_set_ne h, wipe_get]
      by_cases hm : j ∈ vs
      · simp [hm]
      · have : ¬ j ∈ v :: vs := fun z => (List.mem_cons.mp z).elim (fun e => h e.symm) hm
        simp [hm, this]
theorem wipe_ext {σ σ' : L2.St} {vs : List Nat} (hl : σ'.length = σ.length) (h : ∀ j, j ∉ vs → σ'[j]? = σ[j]?) : wipe σ' vs = wipe σ vs := by
  apply List.ext_getElem?
  intro j
  rw [wipe_get, wipe_get, hl]
  by_cases c : j ∈ vs ∧ j < σ.length
  · rw [if_pos c, if_pos c]
  · rw [if_neg c, if_neg c]
    by_cases m : j ∈ vs
    · have : ¬ j < σ.length := fun z => c ⟨m, z⟩
      rw [List.getElem?_eq_none (by omega), List.getElem?_eq_none (by omega)]
    · exact h j m
theorem wipe_wipe {σ : L2.St} {vs : List Nat} : wipe (wipe σ vs) vs = wipe σ vs := wipe_ext (wipe_length σ vs) fun j hj => by
  rw [wipe_get, if_neg (fun z => hj z.1)]
/-- the data of the slots that a comprehension wipes -/
def wipeT (τ : TEnv) : List Nat → TEnv
  | [] => τ
  | v :: vs => (wipeT τ vs).set v none
theorem denE_wipe {K : PySem.W.Frag} {G : Hp} {τ : TEnv} {σ : L2.St} (h : DenE K τ G σ) : ∀ (vs : List Nat), DenE K (wipeT τ vs) G (wipe σ vs)
  | [] => h
  | v :: vs => fun j d e => by
    have e' : ((wipeT τ vs).set v none)[j]? = some (some d) := e
    show ∃ u, ((wipe σ vs).set v none)[j]? = some (some u) ∧ _
    by_cases c : v = j
    · subst c
      by_cases hl : v < (wipeT τ vs).length
      · rw [List.getElem?_set_self hl] at e'; cases e'
      · rw [List.getElem?_eq_none (by simpa using hl)] at e'; cases e'
    · rw [List.getElem?_set_ne c] at e' ⊢
      exact denE_wipe h vs j d e'

/-! ### a comprehension's block -/
abbrev Cx.Bk (X : Cx) (scope : Scope) (s : Shared) (H : Hp) (C : Addr) (cl : List (Str × Addr)) (fp : List Addr) : Cx := X.blk s H scope (compEnvC scope cl C X.env) fp
/-- a store at a comprehension's target: slots of vs alone change -/
def GC (X : Cx) (vs : List Nat) (tg : Expr) (d : Dat) (τ : TEnv) (M : Mem) (P : TEnv → Mem → Prop) : Prop :=
  ∀ σ G H v, DenE X.K τ G σ → Hst X.K G M H → Den X.K G d v → ∀ Q, (∀ τ' M' G' H' σ', P τ' M' → Stp G M H G' M' H' → Hst X.K G' M' H' → DenE X.K τ' G' σ' → σ'.length = σ.length → (∀ j, j ∉ vs → σ'[j]? = σ[j]?) → Q σ' H') → tWG X false tg v σ H Q
def GCs (X : Cx) (vs : List Nat) (ts : List Expr) (ds : List Dat) (τ : TEnv) (M : Mem) (P : TEnv → Mem → Prop) : Prop :=
  ∀ σ G H ws, DenE X.K τ G σ → Hst X.K G M H → DenL X.K G ds ws → ∀ Q, (∀ τ' M' G' H' σ', P τ' M' → Stp G M H G' M' H' → Hst X.K G' M' H' → DenE X.K τ' G' σ' → σ'.length = σ.length → (∀ j, j ∉ vs → σ'[j]? = σ[j]?) → Q σ' H') → tWGs X false ts ws σ H Q
section
variable {X : Cx} {T : Bool} {tg iter elt e a b c : Expr} {τ : TEnv} {M : Mem} {E : XKx} {pos p : Pos} {vs : List Nat} {P : PK'}
theorem gc_name {x : Str} {d : Dat} {P : TEnv → Mem → Prop} (h : P (τ.set (ixIn X.N x) (some d)) M) (hv : ixIn X.N x ∈ vs := by first | decide | exact of_decide_eq_true (by kernel_rfl)) (hi : X.N[ixIn X.N x]? = some x := by rfl) (hx : Loc X.env.scope x := by first | exact Or.inl rfl | exact Or.inr rfl) (hN : X.N.Nodup := by first | decide +kernel | exact of_decide_eq_true (by kernel_rfl))
    (hf : X.fn x = true ∨ X.env.scope.names.lookup x = some .local := by first | exact .inl rfl | exact .inr rfl | assumption) : GC X vs (.Name x p) d τ M P := fun σ G H v hE hH dv Q hQ => tWG_len fun hl => by
  refine tWG_of (pg_name hN hi hx hf) ?_
  have hlt : ixIn X.N x < σ.length := by rw [hl]; exact (List.getElem?_eq_some_iff.mp hi).1
  exact hQ _ _ _ _ _ h Stp.refl hH (hE.set hlt dv) (List.length_set) fun j hj => List.getElem?_set_ne (fun z => hj (by rw [← z]; exact hv))
theorem gcs_nil {P : TEnv → Mem → Prop} (h : P τ M) : GCs X vs [] [] τ M P := fun σ G H ws hE hH dv Q hQ pins s us _ I r => by
  rw [dv.nil_inv] at r
  exact pgs_nil.run pins s σ H [] us Q I r ⟨rfl, hQ _ _ _ _ _ h Stp.refl hH hE rfl fun _ _ => rfl⟩
theorem gcs_cons {t : Expr} {ts : List Expr} {d : Dat} {ds : List Dat} {P : TEnv → Mem → Prop} (h : GC X vs t d τ M (fun τ1 M1 => GCs X vs ts ds τ1 M1 P))
    (he : (assignEach (t :: ts) X.env).map (·.2) = assign t X.env :: (assignEach ts X.env).map (·.2) := by rfl) : GCs X vs (t :: ts) (d :: ds) τ M P := fun σ G H ws hE hH dv Q hQ pins s us _ I r => by
  obtain ⟨v, vr, rfl, d1, d2⟩ := dv.cons_inv
  refine (pgs_cons pg_W pgs_W he).run pins s σ H _ us Q I r ⟨v, vr, rfl, ?_⟩
  refine h σ G H v hE hH d1 _ (fun τ2 M2 G2 H2 σ2 p2 s2 h2 e2 l2 k2 => p2 σ2 G2 H2 vr e2 h2 (d2.up s2.gg) Q (fun τ3 M3 G3 H3 σ3 p3 s3 h3 e3 l3 k3 => hQ _ _ _ _ _ p3 (s2.trans s3) h3 e3 (l3.trans l2) fun j hj => (k3 j hj).trans (k2 j hj)))
theorem gc_tup {es : List Expr} {k : Nat} {ds : List Dat} {P : TEnv → Mem → Prop} (h : GCs X vs es ds τ M P) (hl : ds.length = (assignEach es X.env).length := by rfl) (hc : X.calm = true := by rfl)
    (hst : (assignEach es X.env).findIdx? (·.1) = none := by rfl) : GC X vs (.Tuple es k pos) (.tup ds) τ M P := fun σ G H v hE hH dv Q hQ => by
  obtain ⟨a, ws, rfl, hq, hd⟩ := dv.tup_inv
  exact tWG_of (pg_tup hc pgs_W rfl hst) ⟨a, ws, rfl, Same.tpl hH.sub (SqT.of hq), by rw [hd.length, hl], h σ G H ws hE hH hd Q hQ⟩
/-- the tests of a clause -/
def tWIf (X : Cx) (ifs : List Expr) : TT := fun σ H Q => ∀ pins s, Inv X pins σ H s →
    wpAny (model X.prog X.w) X.A (forIn ifs true fun c r => if r = true then do let ok ← isTrue c X.env (eval c X.env); pure (ForInStep.yield ok) else pure (ForInStep.yield r)) (TP X pins σ Q) X.xe s
def EFs (X : Cx) (ifs : List Expr) (τ : TEnv) (M : Mem) (P : Bool → Mem → Prop) : Prop :=
  ∀ σ G H, DenE X.K τ G σ → Hst X.K G M H → ∀ Q, CT' X.K G M H P Q → tWIf X ifs σ H Q
theorem ef_nil {P : Bool → Mem → Prop} (h : P true M) : EFs X [] τ M P := fun σ G H hE hH Q hQ pins s I => pts_nil.run pins s σ H Q I (hQ _ _ _ _ h Stp.refl hH)
theorem ef_one {P : Bool → Mem → Prop} (h : ET X false c τ M P E0') : EFs X [c] τ M P := fun σ G H hE hH Q hQ pins s I => (pts_one pt_W).run pins s σ H Q I (h.run _ takes0 σ G H hE hH Q hQ noX)

def gFam (X : Cx) (scope : Scope) (tg : Expr) : TG := fun v σ H Q => ∀ (s : Shared) (H0 : Hp) (C : Addr) (cl : List (Str × Addr)) (fp : List Addr), tWG (Cx.Bk X scope s H0 C cl fp) false tg v σ H Q
def iFam (X : Cx) (scope : Scope) (ifs : List Expr) : TT := fun σ H Q => ∀ (s : Shared) (H0 : Hp) (C : Addr) (cl : List (Str × Addr)) (fp : List Addr), tWIf (Cx.Bk X scope s H0 C cl fp) ifs σ H Q
def eFam (X : Cx) (scope : Scope) (elt : Expr) : TE := fun σ H Q => ∀ (s : Shared) (H0 : Hp) (C : Addr) (cl : List (Str × Addr)) (fp : List Addr), tW (Cx.Bk X scope s H0 C cl fp) false elt σ H Q
theorem pg_fam {scope : Scope} (s : Shared) (H0 : Hp) (C : Addr) (cl : List (Str × Addr)) (fp : List Addr) : PG (Cx.Bk X scope s H0 C cl fp) tg (gFam X scope tg) := ⟨fun pins s' σ H' v u Q I r q => q s H0 C cl fp pins s' u tk_f I r⟩
theorem pt_fam {scope : Scope} {ifs : List Expr} (s : Shared) (H0 : Hp) (C : Addr) (cl : List (Str × Addr)) (fp : List Addr) : PTs (Cx.Bk X scope s H0 C cl fp) ifs (iFam X scope ifs) := ⟨fun pins s' σ H' Q I q => q s H0 C cl fp pins s' I⟩
theorem pe_fam {scope : Scope} (s : Shared) (H0 : Hp) (C : Addr) (cl : List (Str × Addr)) (fp : List Addr) : PE (Cx.Bk X scope s H0 C cl fp) elt (eFam X scope elt) := ⟨fun pins s' σ H' Q I q => q s H0 C cl fp pins s' tk_f I⟩
/-- the reading of a comprehension: the new list is P's -/
theorem lc_read {scope : Scope} (hi : EI X tg iter τ M (fun ds M1 Ok => ds.length ≤ sizeLine ∧ ∃ I : Nat → List Dat → Mem → Prop, I 0 [] M1 ∧ (∀ i acc M, I i acc M → Ok M) ∧
      (∀ i d acc M, ds[i]? = some d → I i acc M → ∀ (s : Shared) (H : Hp) (C : Addr) (cl : List (Str × Addr)) (fp : List Addr), GC (Cx.Bk X scope s H C cl fp) vs tg d (wipeT τ vs) M (fun τ2 M2 => ∀ (s : Shared) (H : Hp) (C : Addr) (cl : List (Str × Addr)) (fp : List Addr),
        EFs (Cx.Bk X scope s H C cl fp) ifs τ2 M2 (fun b M3 => (b = true → ∀ (s : Shared) (H : Hp) (C : Addr) (cl : List (Str × Addr)) (fp : List Addr), EX (Cx.Bk X scope s H C cl fp) false elt τ2 M3 (fun y M4 => I (i + 1) (acc ++ [y]) M4) E0') ∧ (b = false → I (i + 1) acc M3)))) ∧
      (∀ acc M, I ds.length acc M → P (.lst acc) M)) E)
    {W : WX} (tk : Takes X W) {σ : L2.St} {G H : Hp} (hE : DenE X.K τ G σ) (hH : Hst X.K G M H) {Q : VK} (hP : CE' X.K G M H P Q) (hX : CX' X.K G M H E (fun c d H2 => W c d σ H2)) :
    tLc (tWI X false tg iter) (gFam X scope tg) (iFam X scope ifs) (eFam X scope elt) vs σ H Q := by
  refine hi.run W tk σ G H hE hH _ ?_ hX
  intro J ds M1 G1 H1 Ok ⟨hz, I, h0, hOk, hb, hd⟩ s1 h1 w D hD
  have hDH : ∀ b o, b ∉ adr M → H b = some o → b ≠ D := fun b o n e z => by rw [← z, s1.hh b o n e] at hD; cases hD
  -- the new list at D, beside
  have gD : ∀ {G' H' : Hp} {M' : Mem}, Hst X.K G' M' H' → H' D ≠ none → True := fun _ _ => trivial
  let Pv : Nat → Hp → Prop := fun i H' => ∃ acc aV M' G', I i acc M' ∧ acc.length ≤ i ∧ Hst X.K G' M' H' ∧ Stp G M H G' M' H' ∧ Same G1 G' ∧ H' D = some (.lst aV) ∧ DenL X.K G' acc aV ∧ G' D = none ∧ D ∉ adr M'
  have laid : ∀ {G' H' : Hp} {M' : Mem} {xs : List V}, Hst X.K G' M' H' → G' D = none → D ∉ adr M' → Hst X.K G' M' (upd H' D (.lst xs)) := fun {G' H' M' xs} h g n =>
    ⟨fun b o e => by rw [upd_ne (fun z => by rw [z, g] at e; cases e)]; exact h.sub b o e, fun c hc => (h.mem c hc).up (Same.refl _) fun b hb o e => by rw [upd_ne (fun z => n (by rw [← z]; exact List.mem_flatMap.mpr ⟨c, hc, hb⟩))]; exact e, h.out, h.nd⟩
  have stp : ∀ {G' H' : Hp} {M' : Mem} {xs : List V}, Stp G M H G' M' H' → Stp G M H G' M' (upd H' D (.lst xs)) := fun {G' H' M' xs} s =>
    ⟨s.gg, fun b o n e => by rw [upd_ne (hDH b o n e)]; exact s.hh b o n e, s.fr, s.ad⟩
  have n0 : D ∉ adr M1 := fun z => h1.there D z hD
  have g0 : G1 D = none := h1.sub.free hD
  refine ⟨fun i m H' => m = ds.length - i ∧ i ≤ ds.length ∧ Pv i H', ⟨_, rfl, Nat.zero_le _, [], [], M1, G1, h0, Nat.zero_le _, laid h1 g0 n0, stp s1, Same.refl _, upd_same, .nil, g0, n0⟩, ?_⟩
  rintro i m H' ⟨rfl, hle, acc, aV, M', G', hI, hal, h', s', g', hDl, hda, hg', hn'⟩
  obtain ⟨w1, w2, w3⟩ := w G' M' H' g' h' (hOk _ _ _ hI)
  -- D through a step
  have thru : ∀ {G2 H2 : Hp} {M2 : Mem}, Stp G' M' H' G2 M2 H2 → H2 D = some (.lst aV) ∧ DenL X.K G2 acc aV ∧ G2 D = none ∧ D ∉ adr M2 := fun {G2 H2 M2} s =>
    ⟨s.hh D _ hn' hDl, hda.up s.gg, s.fr D (by rw [hDl]; exact fun z => nomatch z) hn' hg', fun z => (s.ad D z).elim hn' fun q => by rw [hDl] at q; cases q⟩
  by_cases hlt : i < ds.length
  · refine .inr ⟨w1 i hlt, fun H2 => Pv (i + 1) H2, fun H2 q => ⟨ds.length - (i + 1), by omega, rfl, hlt, q⟩, fun x H2 y => ?_⟩
    obtain ⟨G2, s2, h2, dx⟩ := w3 i x H2 hlt y
    have hd' := List.getElem?_eq_getElem hlt
    have eW : DenE X.K (wipeT τ vs) G2 (wipe σ vs) := denE_wipe ((hE.up s'.gg).up s2.gg) vs
    intro sA HA CA clA fpA
    refine hb i _ acc M' hd' hI sA HA CA clA fpA (wipe σ vs) G2 H2 x eW h2 (dx _ hd') _ ?_
    intro τ3 M3 G3 H3 σ3 p3 s3 h3 e3 l3 k3
    refine ⟨?_, fun sB HB CB clB fpB => ?_⟩
    · rw [wipe_ext l3 k3, wipe_wipe]
    refine p3 sB HB CB clB fpB σ3 G3 H3 e3 h3 _ ?_
    intro bb M4 G4 H4 ⟨p4, p4'⟩ s4 h4
    have s24 := (s2.trans s3).trans s4
    cases bb with
    | false =>
      refine iteF ?_
      obtain ⟨t1, t2, t3, t4⟩ := thru s24
      exact ⟨acc, aV, M4, G4, p4' rfl, by omega, h4, s'.trans s24, g'.trans s24.gg, t1, t2, t3, t4⟩
    | true =>
      refine iteT fun sC HC CC clC fpC => ?_
      refine (p4 rfl sC HC CC clC fpC).run _ takes0 σ3 G4 H4 (e3.up s4.gg) h4 _ ?_ noX
      intro y5 M5 v5 G5 H5 p5 s5 h5 d5
      have s25 := s24.trans s5
      obtain ⟨t1, t2, t3, t4⟩ := thru s25
      refine ⟨aV, t1, by rw [hda.length]; omega, acc ++ [y5], aV ++ [v5], M5, G5, p5, by rw [List.length_append]; simp; omega, laid h5 t3 t4, stp (s'.trans s25), g'.trans s25.gg, upd_same, t2.snoc d5, t3, t4⟩
  · have e : i = ds.length := by omega
    subst e
    refine .inl ⟨w2, ?_⟩
    have up : Same G' (upd G' D (.lst aV)) := fun b o e => by rw [upd_ne (ne_of_none e hg')]; exact e
    have hF : Hst X.K (upd G' D (.lst aV)) M' H' := ⟨fun b o e => by
      by_cases c : b = D
      · subst c; rw [upd_same] at e; cases e; exact hDl
      · rw [upd_ne c] at e; exact h'.sub b o e, fun c hc => (h'.mem c hc).up up fun _ _ _ e => e, fun b hb => by rw [upd_ne (fun z => hn' (by rw [← z]; exact hb))]; exact h'.out b hb, h'.nd⟩
    have sF : Stp G M H (upd G' D (.lst aV)) M' H' := ⟨s'.gg.trans up, s'.hh, fun b hb n g => by
      rw [upd_ne (fun z => ?_)]
      · exact s'.fr b hb n g
      · cases q : H b with
        | none => exact hb q
        | some o => exact hDH b o n q z, s'.ad⟩
    exact hP _ _ _ _ _ (hd acc M' hI) sF hF (den_lst upd_same (hda.up up))
theorem ex_lc {scope : Scope} {ifs : List Expr} (own : List (Str × Nat)) (h : EI X tg iter τ M (fun ds M1 Ok => ds.length ≤ sizeLine ∧ ∃ I : Nat → List Dat → Mem → Prop, I 0 [] M1 ∧ (∀ i acc M, I i acc M → Ok M) ∧
      (∀ i d acc M, ds[i]? = some d → I i acc M → ∀ (s : Shared) (H : Hp) (C : Addr) (cl : List (Str × Addr)) (fp : List Addr), GC (Cx.Bk X scope s H C cl fp) (own.map (·.2)) tg d (wipeT τ (own.map (·.2))) M (fun τ2 M2 => ∀ (s : Shared) (H : Hp) (C : Addr) (cl : List (Str × Addr)) (fp : List Addr),
        EFs (Cx.Bk X scope s H C cl fp) ifs τ2 M2 (fun b M3 => (b = true → ∀ (s : Shared) (H : Hp) (C : Addr) (cl : List (Str × Addr)) (fp : List Addr), EX (Cx.Bk X scope s H C cl fp) false elt τ2 M3 (fun y M4 => I (i + 1) (acc ++ [y]) M4) E0') ∧ (b = false → I (i + 1) acc M3)))) ∧
      (∀ acc M, I ds.length acc M → P (.lst acc) M)) E)
    (ok : BlkOk X.N X.env.scope scope own := by exact blkOk_by (by first | decide +kernel | kernel_rfl)) (hN : X.N.Nodup := by first | decide +kernel | exact of_decide_eq_true (by kernel_rfl)) (hc : X.calm = true := by rfl) (hs : ∀ x, foldedSetIterable iter X.env x = pure x := by intro _; rfl) :
    EX X T (.ListComp elt [⟨tg, iter, ifs, 0⟩] scope pos) τ M P E := .mk fun W tk σ G H hE hH Q hP hX =>
  tW_of (pe_lc hc hN pi_W ok pg_fam pt_fam pe_fam hs) (lc_read h tk hE hH hP hX)
end
end Kh

set_option Elab.async false
set_option linter.all false
set_option maxRecDepth 100000
set_option maxHeartbeats 1000000
namespace Kh
open PySem PySem.Spec L2

section
variable {X : Cx} {T : Bool} {τ : TEnv} {M : Mem} {P : PK'} {E : XKx} {e a b c o : Expr} {es : List Expr} {pos apos : Pos} {R : RK} {rest : List Stmt}
theorem EX.t (h : EX X false e τ M P E) : EX X T e τ M P E := .mk fun W tk σ G H hE hH Q hP hX pins s _ I => h.run W tk σ G H hE hH Q hP hX pins s tk_f I
theorem ET.t {P : Bool → Mem → Prop} (h : ET X false e τ M P E) : ET X T e τ M P E := .mk fun W tk σ G H hE hH Q hP hX pins s _ I => h.run W tk σ G H hE hH Q hP hX pins s tk_f I
theorem WS.t {ss : List Stmt} (h : WS X false ss τ M R) : WS X T ss τ M R := .mk fun W tk σ G H hE hH D hR pins s _ I => h.run W tk σ G H hE hH D hR pins s tk_f I

/-! ### operators by values -/
theorem o_scal {f : Value → Value → Sem Value} {r : R2} {x y : Dat} (v u : V) (hv : ∀ G w, Den X.K G x w → w = v) (hu : ∀ G w, Den X.K G y w → w = u) (ho : OpR X f r) (h : ∀ G H, Hst X.K G M H → ∀ Q, CE' X.K G M H P Q → r v u H Q) : OP X T f x y M P :=
  op_of ho fun G H v' u' hH dx dy Q hP => by rw [hv _ _ dx, hu _ _ dy]; exact h G H hH Q hP
theorem o_eqS {x y : Dat} (v u : V) (hv : ∀ G w, Den X.K G x w → w = v) (hu : ∀ G w, Den X.K G y w → w = u) (hs : scal v u = true) (h : P (.bl (decide (v = u))) M) : OP X T (compareOp .Eq) x y M P := o_scal v u hv hu op_eq fun G H hH Q hP => ⟨hs, hP _ _ _ _ _ h Stp.refl hH den_bl⟩
theorem o_neS {x y : Dat} (v u : V) (hv : ∀ G w, Den X.K G x w → w = v) (hu : ∀ G w, Den X.K G y w → w = u) (hs : scal v u = true) (h : P (.bl (!decide (v = u))) M) : OP X T (compareOp .NotEq) x y M P := o_scal v u hv hu op_ne fun G H hH Q hP => ⟨hs, hP _ _ _ _ _ h Stp.refl hH den_bl⟩
theorem vint {a b : Int} : decide (V.int a = V.int b) = decide (a = b) := by by_cases h : a = b <;> simp [h]
theorem vstr {a b : Str} : decide (V.str a = V.str b) = decide (a = b) := by by_cases h : a = b <;> simp [h]
theorem o_eqI {i j : Int} (h : P (.bl (decide (i = j))) M) : OP X T (compareOp .Eq) (.int i) (.int j) M P := o_eqS (.int i) (.int j) (fun _ _ d => d.int_inv) (fun _ _ d => d.int_inv) rfl (by rw [vint]; exact h)
theorem o_neI {i j : Int} (h : P (.bl (!decide (i = j))) M) : OP X T (compareOp .NotEq) (.int i) (.int j) M P := o_neS (.int i) (.int j) (fun _ _ d => d.int_inv) (fun _ _ d => d.int_inv) rfl (by rw [vint]; exact h)
theorem o_eqT {i j : Str} (h : P (.bl (decide (i = j))) M) : OP X T (compareOp .Eq) (.str i) (.str j) M P := o_eqS (.str i) (.str j) (fun _ _ d => d.str_inv) (fun _ _ d => d.str_inv) rfl (by rw [vstr]; exact h)
theorem o_neT {i j : Str} (h : P (.bl (!decide (i = j))) M) : OP X T (compareOp .NotEq) (.str i) (.str j) M P := o_neS (.str i) (.str j) (fun _ _ d => d.str_inv) (fun _ _ d => d.str_inv) rfl (by rw [vstr]; exact h)
/-- is None -/
def Dat.isN : Dat → Bool
  | .non => true
  | _ => false
theorem den_isN {K : PySem.W.Frag} {G : Hp} {d : Dat} {v : V} (h : Den K G d v) (hr : ∀ u, d ≠ .raw u) : decide (v = .non) = d.isN := by
  cases d with
  | non => rw [h.non_inv]; rfl
  | bl b => rw [h.bl_inv]; rfl
  | int i => rw [h.int_inv]; rfl
  | str s => rw [h.str_inv]; rfl
  | raw u => exact absurd rfl (hr u)
  | dic0 => obtain ⟨p, rfl, _⟩ := h.dic0_inv; rfl
  | scr ns => obtain ⟨p, rfl, _⟩ := h.scr_inv; rfl
  | lst ds => obtain ⟨p, vs, rfl, _⟩ := h.lst_inv; rfl
  | tup ds => obtain ⟨p, vs, rfl, _⟩ := h.tup_inv; rfl
  | obj C ns ds => obtain ⟨p, dx, vs, rfl, _⟩ := h.obj_inv; rfl
  | xn a dd ns ds => obtain ⟨vs, rfl, _⟩ := h.xn_inv; rfl
  | «at» a d => obtain ⟨rfl, _⟩ := h.at_inv; rfl
theorem o_isN {x : Dat} (hr : ∀ u, x ≠ .raw u) (h : P (.bl x.isN) M) : OP X T (compareOp .Is) x .non M P := op_of op_isN fun G H v u hH dx dy Q hP => ⟨dy.non_inv, by rw [den_isN dx hr]; exact hP _ _ _ _ _ h Stp.refl hH den_bl⟩
/-- ints -/
theorem o_mul {i j : Int} (hc : CMulW i j) (h : P (.int (i * j)) M) : OP X T (binaryOp .Mult) (.int i) (.int j) M P := op_IIc op_mulW hc (fun _ => den_int) h
theorem o_mulS {i j : Int} (hc : (-(2 ^ 64) < i ∧ i < 2 ^ 64) ∨ (-(2 ^ 64) < j ∧ j < 2 ^ 64)) (h : P (.int (i * j)) M) : OP X T (binaryOp .Mult) (.int i) (.int j) M P := op_IIc op_mul hc (fun _ => den_int) h
theorem o_mod {i j : Int} (hc : 0 < j) (h : P (.int (i % j)) M) : OP X T (binaryOp .Mod) (.int i) (.int j) M P := op_IIc op_mod hc (fun _ => den_int) h
theorem o_div {i j : Int} (hc : CDivW i j) (h : P (.int (i / j)) M) : OP X T (binaryOp .FloorDiv) (.int i) (.int j) M P := op_IIc op_fdivW hc (fun _ => den_int) h
/-- texts -/
theorem o_cat {i j : Str} (hl : i.length + j.length ≤ sizeLine) (h : P (.str (i ++ j)) M) : OP X T (binaryOp .Add) (.str i) (.str j) M P := op_of op_add_str fun G H v u hH dx dy Q hP => ⟨i, j, dx.str_inv, dy.str_inv, hl, hP _ _ _ _ _ h Stp.refl hH den_str⟩
theorem o_notInS {c : Nat} {z : Str} (h : P (.bl (!decide (c ∈ z.cps.toList))) M) : OP X T (compareOp .NotIn) (.str ⟨#[c]⟩) (.str z) M P := op_of op_notIn_sign fun G H v u hH dx dy Q hP => ⟨c, z, dx.str_inv, dy.str_inv, hP _ _ _ _ _ h Stp.refl hH den_bl⟩
/-- a text so many times -/
def repS (z : Str) (n : Int) : Str := ⟨(List.replicate n.toNat z.cps.toList).flatten.toArray⟩
theorem rep_fold : ∀ (n : Nat) (l acc : Array Nat), ((List.replicate n l).foldl (· ++ ·) acc).toList = acc.toList ++ (List.replicate n l.toList).flatten
  | 0, l, acc => by simp
  | n + 1, l, acc => by
    rw [List.replicate_succ, List.foldl_cons, rep_fold n l (acc ++ l), List.replicate_succ, List.flatten_cons, Array.toList_append, List.append_assoc]
theorem str_ext {x y : Str} (h : x.cps.toList = y.cps.toList) : x = y := by
  obtain ⟨x⟩ := x; obtain ⟨y⟩ := y
  congr 1
  exact Array.toList_inj.mp h
theorem op_repS : OpR X (binaryOp .Mult) (fun x y H Q => ∃ z n, x = .str z ∧ y = .int n ∧ (-(2 ^ 63) ≤ n ∧ n < 2 ^ 63) ∧ z.length * n.toNat ≤ sizeLine ∧ Q (.str (repS z n)) H) := by
  intro pins s σ H x y v u Q I rx ry h
  obtain ⟨z, n, rfl, rfl, ⟨b1, b2⟩, hl, q⟩ := h
  obtain ⟨t, rfl⟩ := rx
  obtain ⟨t', rfl⟩ := ry
  have hz : z.cps.size = z.length := rfl
  have sl : sizeLine = 16777216 := sizeLine_eq
  refine PySem.P.mul_str ?_ (fun h1 h2 h3 => ?_) (fun h1 h2 => ?_) ?_
  · rw [decide_eq_false (by omega), decide_eq_false (by omega)]; rfl
  · have hn : (1 : Int) ≤ n := by omega
    have : (z.length : Int) * n ≤ 16777216 := by
      have : ((z.length * n.toNat : Nat) : Int) ≤ 16777216 := by omega
      rwa [Int.natCast_mul, Int.toNat_of_nonneg (by omega)] at this
    have h4 : (z.length : Int) ≤ (2 ^ 63 - 1) / n := by
      rw [Int.le_ediv_iff_mul_le (by omega)]; omega
    omega
  · exact decide_eq_false (by omega)
  · have fin : ∀ (t'' : Tok) (k : Nat) (w : Str), w = repS z n → EP X pins σ Q (.str w t'') { s with toks := k } := fun t'' k w e => ⟨.str (repS z n), H, I.tok k, ⟨t'', by rw [e]⟩, q⟩
    split
    · refine ⟨by simp [Str.empty, Str.length, sl], fin _ _ _ (str_ext ?_)⟩
      have : n.toNat = 0 := by omega
      simp [repS, this, Str.empty]
    · split
      · rename_i h1 h2
        refine fin _ _ _ (str_ext ?_)
        rcases Bool.or_eq_true _ _ ▸ h2 with h2 | h2
        · have : n = 1 := by simpa using h2
          subst this
          simp [repS]
        · have : z.cps.toList = [] := by
            have : z.length = 0 := by simpa using h2
            rw [← hz] at this
            exact List.length_eq_zero_iff.mp (by simpa using this)
          simp [repS, this]
      · refine ⟨?_, fin _ _ _ (str_ext ?_)⟩
        · have : (⟨(List.replicate n.toNat z.cps).foldl (· ++ ·) #[]⟩ : Str).length = z.length * n.toNat := by
            show ((List.replicate n.toNat z.cps).foldl (· ++ ·) #[]).size = _
            rw [← Array.length_toList, rep_fold]
            simp [Nat.mul_comm, hz]
          rw [this]; exact hl
        · rw [rep_fold]; simp [repS]
theorem o_repS {z : Str} {n : Int} (hb : -(2 ^ 63) ≤ n ∧ n < 2 ^ 63) (hl : z.length * n.toNat ≤ sizeLine) (h : P (.str (repS z n)) M) : OP X T (binaryOp .Mult) (.str z) (.int n) M P := op_of op_repS fun G H v u hH dx dy Q hP => ⟨z, n, dx.str_inv, dy.int_inv, hb, hl, hP _ _ _ _ _ h Stp.refl hH den_str⟩
/-- lists -/
theorem o_catL {xs ys : List Dat} (hl : xs.length + ys.length ≤ sizeLine) (h : P (.lst (xs ++ ys)) M) : OP X T (binaryOp .Add) (.lst xs) (.lst ys) M P := op_of op_cat fun G H v u hH dx dy Q hP => by
  obtain ⟨p, vs, rfl, g1, d1⟩ := dx.lst_inv
  obtain ⟨q, us, rfl, g2, d2⟩ := dy.lst_inv
  refine ⟨p, q, vs, us, rfl, rfl, hH.sub _ _ g1, hH.sub _ _ g2, by rw [d1.length, d2.length]; exact hl, fun r hr => ?_⟩
  obtain ⟨s2, h2⟩ := Stp.new (o := .lst (vs ++ us)) hH hr
  exact hP _ _ _ _ _ h s2 h2 (den_lst upd_same ((d1.append d2).up s2.gg))
/-! ### subscripts -/
def IQ (K : PySem.W.Frag) (x y : Dat) (M : Mem) (P : PK') : Prop := ∀ G H v u, Hst K G M H → Den K G x v → Den K G y u → ∀ Q, CE' K G M H P Q → rIx K v u H Q
theorem ex_ix (h : EX X T a τ M (fun x M1 => EX X T b τ M1 (fun y M2 => IQ X.K x y M2 P) E) E) (hs : PlainIx b := by exact fun _ _ => rfl) : EX X T (.Subscript a b pos) τ M P E := by
  refine .mk ?_; intro W tk σ G H hE hH Q hP hX pins s k I
  have hA := h.run W tk σ G H hE hH (fun x H1 => tW X T b σ H1 fun y H2 => rIx X.K x y H2 Q) (fun x M1 v G1 H1 hb s1 h1 dx => hb.run W tk σ G1 H1 (hE.up s1.gg) h1 _ (fun y M2 u G2 H2 ho s2 h2 dy => ho G2 H2 v u h2 (dx.up s2.gg) dy Q (hP.step (s1.trans s2))) (hX.step s1)) hX
  exact PyProof.Rows.Subscript_ (thnT k (hA pins s k I) fun v s1 k1 ⟨x, H1, I1, r1, q1⟩ => thn (q1 pins s1 k1 I1) fun u s2 ⟨y, H2, I2, r2, q2⟩ => ix_seq a b pins s2 σ H2 x y v u Q I2 r1 r2 q2 (hs _ _))
theorem atI_den {K : PySem.W.Frag} {G : Hp} {ds : List Dat} {vs : List V} {i : Int} {d : Dat} (h : DenL K G ds vs) (e : atI ds i = some d) : ∃ v, atI vs i = some v ∧ Den K G d v := by
  unfold atI at e ⊢
  rw [h.length]
  cases q : ixN ds.length i with
  | none => rw [q] at e; cases e
  | some j => rw [q] at e; exact h.get e
theorem i_lst {ds : List Dat} {i : Int} {d : Dat} (e : atI ds i = some d) (h : P d M) {K : PySem.W.Frag} : IQ K (.lst ds) (.int i) M P := fun G H v u hH dx dy Q hP => by
  obtain ⟨p, vs, rfl, g, dl⟩ := dx.lst_inv
  obtain ⟨w, e1, d1⟩ := atI_den dl e
  exact .inl ⟨p, vs, i, w, rfl, dy.int_inv, SqL.of (hH.sub _ _ g), e1, hP _ _ _ _ _ h Stp.refl hH d1⟩
theorem i_tup {ds : List Dat} {i : Int} {d : Dat} (e : atI ds i = some d) (h : P d M) {K : PySem.W.Frag} : IQ K (.tup ds) (.int i) M P := fun G H v u hH dx dy Q hP => by
  obtain ⟨p, vs, rfl, g, dl⟩ := dx.tup_inv
  obtain ⟨w, e1, d1⟩ := atI_den dl e
  exact .inr (.inl ⟨p, vs, i, w, rfl, dy.int_inv, SqT.of (hH.sub _ _ g), e1, hP _ _ _ _ _ h Stp.refl hH d1⟩)
theorem i_cell {p : Addr} {ds : List Dat} {i : Int} {d : Dat} (hm : (p, MC.lst ds) ∈ M) (e : atI ds i = some d) (h : P d M) {K : PySem.W.Frag} : IQ K (.raw (.ref p)) (.int i) M P := fun G H v u hH dx dy Q hP => by
  obtain ⟨vs, g, dl⟩ := hH.mem _ hm
  obtain ⟨w, e1, d1⟩ := atI_den dl e
  exact .inl ⟨p, vs, i, w, dx.raw_inv, dy.int_inv, SqL.of g, e1, hP _ _ _ _ _ h Stp.refl hH d1⟩
theorem i_scr {ns : List Int} {i n : Int} (e : atI ns i = some n) (h : P (.int n) M) {K : PySem.W.Frag} : IQ K (.scr ns) (.int i) M P := fun G H v u hH dx dy Q hP => by
  obtain ⟨p, rfl, g⟩ := dx.scr_inv
  refine .inl ⟨p, _, i, .int n, rfl, dy.int_inv, hH.sub.seq g, ?_, hP _ _ _ _ _ h Stp.refl hH den_int⟩
  unfold atI at e ⊢
  rw [List.length_map]
  cases q : ixN ns.length i with
  | none => rw [q] at e; cases e
  | some j =>
    rw [q] at e
    show (ns.map V.int)[j]? = _
    rw [List.getElem?_map, show ns[j]? = some n from e]; rfl
theorem i_str {z : Str} {i : Int} {c : Nat} (hl : z.length ≤ sizeLine) (e : atI z.cps.toList i = some c) (h : P (.str ⟨#[c]⟩) M) {K : PySem.W.Frag} : IQ K (.str z) (.int i) M P := fun G H v u hH dx dy Q hP =>
  .inr (.inr ⟨z, i, c, dx.str_inv, dy.int_inv, hl, e, hP _ _ _ _ _ h Stp.refl hH den_str⟩)
end
end Kh

set_option Elab.async false
set_option linter.all false
set_option maxRecDepth 100000
set_option maxHeartbeats 1000000
namespace Kh
open PySem PySem.Spec L2

section
variable {X : Cx} {T : Bool} {τ : TEnv} {M : Mem} {P : PK'} {E : XKx} {e a b c o : Expr} {es : List Expr} {pos apos p2 : Pos} {R : RK} {rest : List Stmt}
/-! ### slices -/
def tWO (X : Cx) (T : Bool) (e : Option Expr) : TO := fun σ H Q => ∀ pins s, Tk T s → Inv X pins σ H s → wpAny (model X.prog X.w) X.A (evalPart e X.env) (fun u s' => ∃ o H', Inv X pins σ H' s' ∧ IsPart u o ∧ Q o H') X.xe s
structure EP' (X : Cx) (T : Bool) (e : Option Expr) (τ : TEnv) (M : Mem) (P : Option Int → Mem → Prop) (E : XKx) : Prop where
  run : ∀ W, Takes X W → ∀ σ G H, DenE X.K τ G σ → Hst X.K G M H → ∀ Q : Option Int → Hp → Prop, (∀ i M2 G2 H2, P i M2 → Stp G M H G2 M2 H2 → Hst X.K G2 M2 H2 → Q i H2) → CX' X.K G M H E (fun c d H2 => W c d σ H2) → tWO X T e σ H Q
theorem ep_none {P : Option Int → Mem → Prop} (h : P none M) : EP' X T none τ M P E := .mk fun W tk σ G H hE hH Q hP hX pins s k I => po_none.run pins s σ H Q I (hP _ _ _ _ h Stp.refl hH)
theorem ep_some {P : Option Int → Mem → Prop} (h : EX X T e τ M (fun d M1 => ∃ i, d = .int i ∧ P (some i) M1) E) : EP' X T (some e) τ M P E := .mk fun W tk σ G H hE hH Q hP hX pins s k I => by
  rw [evalPart_some]
  refine thn (h.run W tk σ G H hE hH (fun x H1 => ∃ i, x = .int i ∧ Q (some i) H1) (fun d M1 v G1 H1 ⟨i, ed, hp⟩ s1 h1 dv => by subst ed; exact ⟨i, dv.int_inv, hP _ _ _ _ hp s1 h1⟩) hX pins s k I) fun u s1 ⟨x, H1, I1, r1, i, ex, q⟩ => ?_
  subst ex
  obtain ⟨t, rfl⟩ := r1
  exact ⟨some i, H1, I1, .int i t, q⟩
/-- a slice, by values -/
def SQ (X : Cx) (x : Dat) (lo hi : Option Int) (M : Mem) (P : PK') : Prop := ∃ r, SlR X r ∧ ∀ G H v, Hst X.K G M H → Den X.K G x v → ∀ Q, CE' X.K G M H P Q → r v lo hi H Q
theorem ex_sl {lo hi : Option Expr} (h : EX X T e τ M (fun x M1 => EP' X T lo τ M1 (fun l M2 => EP' X T hi τ M2 (fun u M3 => SQ X x l u M3 P) E) E) E) : EX X T (.Subscript e (.Slice lo hi none p2) pos) τ M P E := by
  refine .mk ?_; intro W tk σ G H hE hH Q hP hX pins s k I
  have hA := h.run W tk σ G H hE hH (fun x H1 => tWO X T lo σ H1 fun l H2 => tWO X T hi σ H2 fun u H3 => ∃ r, SlR X r ∧ r x l u H3 Q) (fun x M1 v G1 H1 hb s1 h1 dx =>
    hb.run W tk σ G1 H1 (hE.up s1.gg) h1 _ (fun l M2 G2 H2 hb2 s2 h2 => hb2.run W tk σ G2 H2 ((hE.up s1.gg).up s2.gg) h2 _ (fun u M3 G3 H3 ⟨r, hr, hq⟩ s3 h3 =>
      ⟨r, hr, hq G3 H3 v h3 ((dx.up s2.gg).up s3.gg) Q (hP.step ((s1.trans s2).trans s3))⟩) (hX.step (s1.trans s2))) (hX.step s1)) hX
  refine PyProof.Rows.Subscript_ (thnT k (hA pins s k I) fun v s1 k1 ⟨x, H1, I1, r1, q1⟩ => ?_)
  refine wpAny_Slice (thnT k1 (q1 pins s1 k1 I1) fun vl s2 k2 ⟨l, H2, I2, pl, q2⟩ => thn (q2 pins s2 k2 I2) fun vu s3 ⟨u, H3, I3, pu, r, hr, q3⟩ => ?_)
  rw [evalPart_none]
  refine wpAny_pure ?_
  have I4 : Inv X pins σ H3 { s3 with heap := s3.heap.push { cls := .type "slice", data := .fields #[vl, vu, .none] } } := I3.kept (t' := s3.toks) fun b ob q => Heap.get?_push_of_some _ q
  obtain ⟨T', id, hT, ht, hg⟩ := hr pins { s3 with heap := s3.heap.push { cls := .type "slice", data := .fields #[vl, vu, .none] } } σ H3 x v vl vu l u s3.heap.objs.size Q I4 r1 (Heap.IsSliceOf.new ..) pl pu q3
  show wpAny (model X.prog X.w) X.A (PyProof.Rows.subscriptTail e (.Slice lo hi none p2) v (.ref s3.heap.objs.size)) (EP X pins σ Q) X.xe { s3 with heap := s3.heap.push { cls := .type "slice", data := .fields #[vl, vu, .none] } }
  exact PyProof.Rows.tail_any (ops := [.ref s3.heap.objs.size, v]) ht hT hg (by with_unfolding_all rfl)
/-- the items between two places -/
def cutD {α : Type} (xs : List α) (lo hi : Option Int) : List α := (xs.drop (HT.sIx xs.length 0 lo)).take (HT.sIx xs.length xs.length hi - HT.sIx xs.length 0 lo)
theorem denL_cut {K : PySem.W.Frag} {G : Hp} {ds : List Dat} {vs : List V} {lo hi : Option Int} (h : DenL K G ds vs) : DenL K G (cutD ds lo hi) (cutV vs lo hi) := by
  unfold cutD cutV
  rw [h.length]
  exact (h.drop _).take _
theorem l_lst {ds : List Dat} {lo hi : Option Int} (h : P (.lst (cutD ds lo hi)) M) : SQ X (.lst ds) lo hi M P := ⟨_, sl_list, fun G H v hH dx Q hP => by
  obtain ⟨p, vs, rfl, g, dl⟩ := dx.lst_inv
  refine ⟨p, vs, rfl, SqL.of (hH.sub _ _ g), fun r hr => ?_⟩
  obtain ⟨s2, h2⟩ := Stp.new (o := .lst (cutV vs lo hi)) hH hr
  exact hP _ _ _ _ _ h s2 h2 (den_lst upd_same ((denL_cut dl).up s2.gg))⟩
/-! ### built-ins by values -/
theorem bc_of {f : Value} {r : List V → Hp → VK → Prop} {ds : List Dat} (hr : CallR X f r) (h : ∀ G H vs, Hst X.K G M H → DenL X.K G ds vs → ∀ Q, CE' X.K G M H P Q → r vs H Q) : BC X f ds M P := ⟨r, hr, h⟩
theorem one_inv {K : PySem.W.Frag} {G : Hp} {d : Dat} {vs : List V} (h : DenL K G [d] vs) : ∃ v, vs = [v] ∧ Den K G d v := by
  obtain ⟨v, r, rfl, d1, t⟩ := h.cons_inv
  rw [t.nil_inv]; exact ⟨v, rfl, d1⟩
theorem two_inv {K : PySem.W.Frag} {G : Hp} {d e : Dat} {vs : List V} (h : DenL K G [d, e] vs) : ∃ v u, vs = [v, u] ∧ Den K G d v ∧ Den K G e u := by
  obtain ⟨v, r, rfl, d1, t⟩ := h.cons_inv
  obtain ⟨u, rfl, d2⟩ := one_inv t
  exact ⟨v, u, rfl, d1, d2⟩
theorem c_len_lst {ds : List Dat} (h : P (.int ds.length) M) : BC X (.builtin "len") [.lst ds] M P := bc_of call_len_seq fun G H vs hH dv Q hP => by
  obtain ⟨v, rfl, d⟩ := one_inv dv
  obtain ⟨p, us, rfl, g, dl⟩ := d.lst_inv
  exact ⟨p, us, rfl, .inl (SqL.of (hH.sub _ _ g)), by rw [dl.length]; exact hP _ _ _ _ _ h Stp.refl hH den_int⟩
theorem c_len_tup {ds : List Dat} (h : P (.int ds.length) M) : BC X (.builtin "len") [.tup ds] M P := bc_of call_len_seq fun G H vs hH dv Q hP => by
  obtain ⟨v, rfl, d⟩ := one_inv dv
  obtain ⟨p, us, rfl, g, dl⟩ := d.tup_inv
  exact ⟨p, us, rfl, .inr (SqT.of (hH.sub _ _ g)), by rw [dl.length]; exact hP _ _ _ _ _ h Stp.refl hH den_int⟩
theorem c_len_scr {ns : List Int} (h : P (.int ns.length) M) : BC X (.builtin "len") [.scr ns] M P := bc_of call_len_seq fun G H vs hH dv Q hP => by
  obtain ⟨v, rfl, d⟩ := one_inv dv
  obtain ⟨p, rfl, g⟩ := d.scr_inv
  exact ⟨p, _, rfl, .inl (hH.sub.seq g), by rw [List.length_map]; exact hP _ _ _ _ _ h Stp.refl hH den_int⟩
theorem c_len_str {z : Str} (hl : z.length ≤ sizeLine) (h : P (.int z.length) M) : BC X (.builtin "len") [.str z] M P := bc_of call_len_str fun G H vs hH dv Q hP => by
  obtain ⟨v, rfl, d⟩ := one_inv dv
  exact ⟨z, by rw [d.str_inv], hl, hP _ _ _ _ _ h Stp.refl hH den_int⟩
theorem c_int_i {i : Int} (h : P (.int i) M) : BC X (.type "int") [.int i] M P := bc_of call_int1 fun G H vs hH dv Q hP => by
  obtain ⟨v, rfl, d⟩ := one_inv dv
  exact .inl ⟨i, by rw [d.int_inv], hP _ _ _ _ _ h Stp.refl hH den_int⟩
theorem c_int_b {k : Bool} (h : P (.int (if k then 1 else 0)) M) : BC X (.type "int") [.bl k] M P := bc_of call_int1 fun G H vs hH dv Q hP => by
  obtain ⟨v, rfl, d⟩ := one_inv dv
  exact .inr ⟨k, by rw [d.bl_inv], hP _ _ _ _ _ h Stp.refl hH den_int⟩
theorem c_min {i j : Int} (hc : X.calm = true) (h : P (.int (if j < i then j else i)) M) : BC X (.builtin "min") [.int i, .int j] M P := bc_of (call_min2 hc) fun G H vs hH dv Q hP => by
  obtain ⟨v, u, rfl, d1, d2⟩ := two_inv dv
  exact ⟨i, j, by rw [d1.int_inv, d2.int_inv], hP _ _ _ _ _ h Stp.refl hH den_int⟩
theorem c_list_lst {ds : List Dat} (h : P (.lst ds) M) : BC X (.type "list") [.lst ds] M P := bc_of call_list_of fun G H vs hH dv Q hP => by
  obtain ⟨v, rfl, d⟩ := one_inv dv
  obtain ⟨p, us, rfl, g, dl⟩ := d.lst_inv
  refine ⟨p, us, rfl, .inl (SqL.of (hH.sub _ _ g)), fun r hr => ?_⟩
  obtain ⟨s2, h2⟩ := Stp.new (o := .lst us) hH hr
  exact hP _ _ _ _ _ h s2 h2 (den_lst upd_same (dl.up s2.gg))
theorem c_tuple_lst {ds : List Dat} (h : P (.tup ds) M) : BC X (.type "tuple") [.lst ds] M P := bc_of call_tuple_of fun G H vs hH dv Q hP => by
  obtain ⟨v, rfl, d⟩ := one_inv dv
  obtain ⟨p, us, rfl, g, dl⟩ := d.lst_inv
  refine ⟨p, us, rfl, .inl ⟨SqL.of (hH.sub _ _ g), fun r hr => ?_⟩⟩
  obtain ⟨s2, h2⟩ := Stp.new (o := .tup us) hH hr
  exact hP _ _ _ _ _ h s2 h2 (den_tup upd_same (dl.up s2.gg))
/-! isinstance -/
structure ICls (K : PySem.W.Frag) (C : Addr) : Prop where
  cl : Cls K C
  ha : PySem.W.findIn K (.ref C) "__class__" = some (some (.builtin "object.__class__"))
  hn : PySem.W.specialIn K (.builtin "object.__class__") "__get__" = some (some (.builtin "getset_descriptor.__get__"))
  tk : PySem.W.takesIn K (.builtin "object.__class__") = some true
  mr : PySem.W.mroIn K C (.type "object") = some true
/-- the type of a datum -/
inductive TyD (K : PySem.W.Frag) (M : Mem) : Dat → Value → Prop
  | non : TyD K M .non (.type "NoneType")
  | bl {k : Bool} : TyD K M (.bl k) (.type "bool")
  | int {i : Int} : TyD K M (.int i) (.type "int")
  | str {s : Str} : TyD K M (.str s) (.type "str")
  | lst {ds : List Dat} : TyD K M (.lst ds) (.type "list")
  | tup {ds : List Dat} : TyD K M (.tup ds) (.type "tuple")
  | dic0 : TyD K M .dic0 (.type "dict")
  | «at» {a : Addr} {d : Dat} {t : Value} (h : TyD K M d t) : TyD K M (.at a d) t
  | obj {C : Addr} {ns : List Str} {ds : List Dat} (h : ICls K C) : TyD K M (.obj C ns ds) (.ref C)
  | cellL {p : Addr} {ds : List Dat} (h : (p, MC.lst ds) ∈ M) : TyD K M (.raw (.ref p)) (.type "list")
  | cellI {p C dx : Addr} {fs : List (Str × Dat)} (h : (p, MC.ins C dx fs) ∈ M) (hc : ICls K C) : TyD K M (.raw (.ref p)) (.ref C)
theorem tyD_ok {K : PySem.W.Frag} {G H : Hp} {d : Dat} {t : Value} {v : V} (h : TyD K M d t) (hH : Hst K G M H) (dv : Den K G d v) : TyX K H v t := by
  induction h generalizing v with
  | «at» h ih => exact ih dv.at_inv.2
  | non => rw [dv.non_inv]; exact .base .non
  | bl => rw [dv.bl_inv]; exact .base (.bl _)
  | int => rw [dv.int_inv]; exact .base (.int _)
  | str => rw [dv.str_inv]; exact .base (.str _)
  | lst => obtain ⟨p, vs, rfl, g, _⟩ := dv.lst_inv; exact .base (.lst (hH.sub _ _ g))
  | tup => obtain ⟨p, vs, rfl, g, _⟩ := dv.tup_inv; exact .base (.tup (hH.sub _ _ g))
  | dic0 => obtain ⟨p, rfl, g⟩ := dv.dic0_inv; exact .base (.dK (hH.sub _ _ g))
  | obj h => obtain ⟨p, dx, vs, rfl, g, _⟩ := dv.obj_inv; exact .base (.ins (hH.sub _ _ g) h.cl h.ha h.hn h.tk h.mr)
  | cellL h => obtain ⟨vs, g, _⟩ := hH.mem _ h; rw [dv.raw_inv]; exact .base (.lst g)
  | cellI h hc => obtain ⟨vs, g, _⟩ := hH.mem _ h; rw [dv.raw_inv]; exact .base (.ins g hc.cl hc.ha hc.hn hc.tk hc.mr)
theorem c_isi {d : Dat} {cv : V} {t u : Value} {k : Bool} (hc : ClsV cv u) (ht : TyD X.K M d t) (hk : PySem.W.kitOne X.K t u = some k) (h : P (.bl k) M) : BC X (.builtin "isinstance") [d, .raw cv] M P := bc_of call_isi fun G H vs hH dv Q hP => by
  obtain ⟨v, w, rfl, d1, d2⟩ := two_inv dv
  rw [d2.raw_inv]
  exact ⟨v, cv, t, u, k, rfl, hc, tyD_ok ht hH d1, hk, hP _ _ _ _ _ h Stp.refl hH den_bl⟩

/-! ### data compared -/
mutual
def toPy : Dat → Option PyData
  | .non => some .none
  | .bl b => some (.bool b)
  | .int i => some (.int i)
  | .str s => some (.str s)
  | .lst xs => (toPyL xs).map PyData.list
  | .tup xs => (toPyL xs).map PyData.tuple
  | _ => none
def toPyL : List Dat → Option (List PyData)
  | [] => some []
  | d :: ds => (toPy d).bind fun x => (toPyL ds).map fun xs => x :: xs
end
mutual
theorem toPy_dp {K : PySem.W.Frag} {G H : Hp} (hs : Same G H) : ∀ (d : Dat) (v : V) (x : PyData), Den K G d v → toPy d = some x → Dp K H v x
  | .non, v, x, h, e => by rw [h.non_inv]; simp only [toPy, Option.some.injEq] at e; subst e; exact .non
  | .bl b, v, x, h, e => by rw [h.bl_inv]; simp only [toPy, Option.some.injEq] at e; subst e; exact .bl b
  | .int i, v, x, h, e => by rw [h.int_inv]; simp only [toPy, Option.some.injEq] at e; subst e; exact .int i
  | .str s, v, x, h, e => by rw [h.str_inv]; simp only [toPy, Option.some.injEq] at e; subst e; exact .str s
  | .lst ds, v, x, h, e => by
    obtain ⟨p, vs, rfl, g, dl⟩ := h.lst_inv
    simp only [toPy, Option.map_eq_some_iff] at e
    obtain ⟨xs, e1, rfl⟩ := e
    exact .lst (SqL.of (hs _ _ g)) (toPyL_dp hs ds vs xs dl e1)
  | .tup ds, v, x, h, e => by
    obtain ⟨p, vs, rfl, g, dl⟩ := h.tup_inv
    simp only [toPy, Option.map_eq_some_iff] at e
    obtain ⟨xs, e1, rfl⟩ := e
    exact .tup (SqT.of (hs _ _ g)) (toPyL_dp hs ds vs xs dl e1)
  | .raw _, _, _, _, e => by simp [toPy] at e
  | .dic0, _, _, _, e => by simp [toPy] at e
  | .scr _, _, _, _, e => by simp [toPy] at e
  | .obj _ _ _, _, _, _, e => by simp [toPy] at e
theorem toPyL_dp {K : PySem.W.Frag} {G H : Hp} (hs : Same G H) : ∀ (ds : List Dat) (vs : List V) (xs : List PyData), DenL K G ds vs → toPyL ds = some xs → DpAll K H vs xs
  | [], vs, xs, h, e => by rw [h.nil_inv]; simp only [toPyL, Option.some.injEq] at e; subst e; exact .nil
  | d :: ds, vs, xs, h, e => by
    obtain ⟨v, r, rfl, d1, t⟩ := h.cons_inv
    simp only [toPyL, Option.bind_eq_some_iff, Option.map_eq_some_iff] at e
    obtain ⟨x, e1, ys, e2, rfl⟩ := e
    exact .cons (toPy_dp hs d v x d1 e1) (toPyL_dp hs ds r ys t e2)
end
end
end Kh

set_option Elab.async false
set_option linter.all false
set_option maxRecDepth 100000
set_option maxHeartbeats 1000000
namespace Kh
open PySem PySem.Spec L2
section
variable {X : Cx} {T : Bool} {τ : TEnv} {M : Mem} {P : PK'} {E : XKx} {e a b c o value : Expr} {es : List Expr} {pos pos' apos tpos : Pos} {R : RK} {rest : List Stmt} {x : Str}
/-! ### cells written -/
theorem adr_split {A B : Mem} {c c' : Addr × MC} (h : adr1 c = adr1 c') : adr (A ++ c :: B) = adr (A ++ c' :: B) := by
  rw [adr_append, adr_append]
  show adr A ++ (adr1 c ++ adr B) = adr A ++ (adr1 c' ++ adr B)
  rw [h]
/-- the cell at p gets another content of the same addresses: H2 differs from H at p alone -/
theorem cell_put {K : PySem.W.Frag} {G H H2 : Hp} {A B : Mem} {p : Addr} {c c' : MC} (h : Hst K G (A ++ (p, c) :: B) H) (hc : adr1 (p, c) = adr1 (p, c')) (hp : p ∈ adr1 (p, c)) (hk : ∀ q, q ≠ p → H2 q = H q) (hn : MH K G H2 (p, c')) :
    Stp G (A ++ (p, c) :: B) H G (A ++ (p, c') :: B) H2 ∧ Hst K G (A ++ (p, c') :: B) H2 := by
  have ea : adr (A ++ (p, c) :: B) = adr (A ++ (p, c') :: B) := adr_split hc
  have hpm : p ∈ adr (A ++ (p, c) :: B) := by rw [adr_append]; exact List.mem_append_right _ (List.mem_append_left _ hp)
  have nd := h.nd
  rw [adr_append] at nd
  obtain ⟨_, nb, nab⟩ := List.nodup_append.mp nd
  have nb' : (adr1 (p, c) ++ adr B).Nodup := nb
  obtain ⟨_, _, ncb⟩ := List.nodup_append.mp nb'
  have other : ∀ d ∈ A ++ B, ∀ q ∈ adr1 d, q ≠ p := fun d hd q hq e => by
    rcases List.mem_append.mp hd with z | z
    · exact nab q (List.mem_flatMap.mpr ⟨d, z, hq⟩) p (List.mem_append_left _ hp) e
    · exact ncb p hp q (List.mem_flatMap.mpr ⟨d, z, hq⟩) e.symm
  refine ⟨⟨Same.refl _, fun q o n e => by rw [hk q (fun z => n (by rw [z]; exact hpm))]; exact e, fun _ _ _ g => g, fun q hq => .inl (by rw [ea]; exact hq)⟩, fun q o e => ?_, fun d hd => ?_, fun q hq => h.out q (by rw [ea]; exact hq), by rw [← ea]; exact h.nd⟩
  · have : q ≠ p := fun z => by rw [z, h.out p hpm] at e; cases e
    rw [hk q this]; exact h.sub q o e
  · rcases List.mem_append.mp hd with z | z
    · exact (h.mem d (List.mem_append_left _ z)).up (Same.refl _) fun q hq o e => by rw [hk q (other d (List.mem_append_left _ z) q hq)]; exact e
    · rcases List.mem_cons.mp z with rfl | z
      · exact hn
      · exact (h.mem d (List.mem_append_right _ (List.mem_cons_of_mem _ z))).up (Same.refl _) fun q hq o e => by rw [hk q (other d (List.mem_append_right _ z) q hq)]; exact e
/-- M with the cell of p put anew -/
def putC (p : Addr) (c' : MC) : Mem → Mem
  | [] => []
  | (q, c) :: M => if q = p then (p, c') :: M else (q, c) :: putC p c' M
theorem putC_split {p : Addr} {c c' : MC} : ∀ {M : Mem}, (p, c) ∈ M → ∃ A B, M = A ++ (p, (M.lookup p).getD c) :: B ∧ putC p c' M = A ++ (p, c') :: B
  | (q, d) :: M, h => by
    by_cases e : q = p
    · subst e
      exact ⟨[], M, by simp [List.lookup], by simp [putC]⟩
    · have hm : (p, c) ∈ M := by
        rcases List.mem_cons.mp h with z | z
        · cases z; exact absurd rfl e
        · exact z
      obtain ⟨A, B, h1, h2⟩ := putC_split (c' := c') hm
      have el : (List.lookup p ((q, d) :: M)) = List.lookup p M := by
        rw [List.lookup_cons, show (p == q) = false from by simpa using fun z => e z.symm]
      refine ⟨(q, d) :: A, B, ?_, ?_⟩
      · rw [el, List.cons_append, ← h1]
      · show (if q = p then _ else (q, d) :: putC p c' M) = _
        rw [if_neg e, h2]; rfl
theorem nodup_cell {K : PySem.W.Frag} {G H : Hp} {p : Addr} {c : MC} (h : Hst K G M H) (hm : (p, c) ∈ M) : M.lookup p = some c := by
  have nd := h.nd
  clear h
  induction M with
  | nil => cases hm
  | cons q M ih =>
    obtain ⟨q, d⟩ := q
    have hq : q ∈ adr1 (q, d) := by cases d <;> simp [adr1]
    have nd' : (adr1 (q, d) ++ adr M).Nodup := nd
    obtain ⟨_, n2, n3⟩ := List.nodup_append.mp nd'
    rw [List.lookup_cons]
    rcases List.mem_cons.mp hm with z | z
    · cases z; simp
    · have hp : p ∈ adr M := List.mem_flatMap.mpr ⟨_, z, by cases c <;> simp [adr1]⟩
      have : (p == q) = false := by
        cases e : p == q with
        | false => rfl
        | true =>
          have e' : p = q := by simpa using e
          exact absurd e'.symm (fun z => n3 q hq p hp z)
      rw [this]
      exact ih z n2
theorem put_ok {K : PySem.W.Frag} {G H H2 : Hp} {p : Addr} {c c' : MC} (h : Hst K G M H) (hm : (p, c) ∈ M) (hc : adr1 (p, c) = adr1 (p, c')) (hk : ∀ q, q ≠ p → H2 q = H q) (hn : MH K G H2 (p, c')) :
    Stp G M H G (putC p c' M) H2 ∧ Hst K G (putC p c' M) H2 := by
  obtain ⟨A, B, h1, h2⟩ := putC_split (c' := c') hm
  rw [nodup_cell h hm] at h1
  have h1 : M = A ++ (p, c) :: B := h1
  rw [h2]
  rw [h1] at h ⊢
  exact cell_put h hc (by cases c <;> simp [adr1]) hk hn

/-! ### methods of built-in types -/
inductive TyB (K : PySem.W.Frag) (M : Mem) : Dat → String → Prop
  | str {s : Str} : TyB K M (.str s) "str"
  | int {i : Int} : TyB K M (.int i) "int"
  | lst {ds : List Dat} : TyB K M (.lst ds) "list"
  | scr {ns : List Int} : TyB K M (.scr ns) "list"
  | cell {p : Addr} {ds : List Dat} (h : (p, MC.lst ds) ∈ M) : TyB K M (.raw (.ref p)) "list"
  | dcell {p : Addr} {kvs : List (Key × Dat)} (h : (p, MC.dic kvs) ∈ M) : TyB K M (.raw (.ref p)) "dict"
theorem tyB_ok {K : PySem.W.Frag} {G H : Hp} {d : Dat} {t : String} {v : V} (h : TyB K M d t) (hH : Hst K G M H) (dv : Den K G d v) : tyV K t v H := by
  cases h with
  | str => rw [dv.str_inv]; rfl
  | int => rw [dv.int_inv]; rfl
  | lst => obtain ⟨p, vs, rfl, g, _⟩ := dv.lst_inv; exact .inl ⟨rfl, vs, SqL.of (hH.sub _ _ g)⟩
  | scr => obtain ⟨p, rfl, g⟩ := dv.scr_inv; exact .inl ⟨rfl, _, hH.sub.seq g⟩
  | cell h => obtain ⟨vs, g, _⟩ := hH.mem _ h; rw [dv.raw_inv]; exact .inl ⟨rfl, vs, SqL.of g⟩
  | dcell h => obtain ⟨vs, g, _⟩ := hH.mem _ h; rw [dv.raw_inv]; exact .inr (.inr (.inl ⟨rfl, .inl ⟨vs, g⟩⟩))
/-- a built-in method of d, called with ds -/
def BMr (X : Cx) (id : String) (d : Dat) (ds : List Dat) (M : Mem) (P : PK') : Prop :=
  ∃ r, MtR X id r ∧ ∀ G H v vs, Hst X.K G M H → Den X.K G d v → DenL X.K G ds vs → ∀ Q, CE' X.K G M H P Q → r v vs H Q
theorem ex_bm {name : Str} {t id : String} (pa : PlainAttrs t) (slot : Slot t name id) (hty : typeOf (.builtin id) = pure (.type "method_descriptor"))
    (h : EX X T o τ M (fun d M1 => TyB X.K M1 d t ∧ EA X T (e :: es) τ M1 (fun ds M2 => BMr X id d ds M2 P) E) E)
    (hbase : attributeBase o name X.env (eval o X.env) = eval o X.env := by rfl)
    (hfew : ((backTo tpos (starEach (e :: es) X.env)).all (fun x => !x.1) && (backToKw tpos (keywordEach [] X.env)).all (fun x => x.1.isSome) && decide ((e :: es).length + ([] : List Keyword).length + (if ([] : List Keyword).isEmpty then 0 else 1) < 30)) = true := by rfl)
    (hline : (apos.endLine == tpos.line) = true := by rfl) (hs : starEach (e :: es) X.env = (false, eval e X.env) :: starEach es X.env := by rfl) (hplain : (backTo tpos (starEach es X.env)).any (·.1) = false := by rfl) :
    EX X T (.Call (.Attribute o name apos) (e :: es) [] tpos) τ M P E := by
  refine .mk ?_; intro W tk σ G H hE hH Q hP hX pins s k I
  have hA := h.run W tk σ G H hE hH (fun v H1 => tyV X.K t v H1 ∧ tWA X T (e :: es) σ H1 fun vs H2 => ∃ r, MtR X id r ∧ r v vs H2 Q) (fun d M1 v G1 H1 ⟨ht, hb⟩ s1 h1 dv =>
    ⟨tyB_ok ht h1 dv, hb.run W tk σ G1 H1 (hE.up s1.gg) h1 _ (fun ds M2 vs G2 H2 ⟨r, hr, hq⟩ s2 h2 dvs => ⟨r, hr, hq G2 H2 v vs h2 (dv.up s2.gg) dvs Q (hP.step (s1.trans s2))⟩) (hX.step s1)⟩) hX
  refine wpAny_Call_method_late hbase hfew hline rfl (thnT k (hA pins s k I) fun v s1 k1 ⟨x, H1, I1, r1, ty, q1⟩ => ?_)
  obtain ⟨h1, h2⟩ := tyV_is I1 r1 ty
  refine ⟨t, id, pa, slot, hty, h1, h2, ?_⟩
  have hA := q1 tpos pins s1 k1 I1
  rw [hs] at hA ⊢
  refine Calls.callWith_builtin (by show (false || (backTo tpos (starEach es X.env)).any (·.1)) = false; rw [hplain] <;> rfl) (Calls.evalArgs_plain ?_)
  exact thn hA fun us s2 ⟨vs, H2, I2, r2, r, hr, q2⟩ => hr pins s2 σ H2 x vs v us Q I2 r1 r2 q2
theorem ex_append (h : EX X T o τ M (fun d M1 => TyB X.K M1 d "list" ∧ EA X T (e :: es) τ M1 (fun ds M2 => BMr X "list.append" d ds M2 P) E) E)
    (hbase : attributeBase o "append" X.env (eval o X.env) = eval o X.env := by rfl)
    (hfew : ((backTo tpos (starEach (e :: es) X.env)).all (fun x => !x.1) && (backToKw tpos (keywordEach [] X.env)).all (fun x => x.1.isSome) && decide ((e :: es).length + ([] : List Keyword).length + (if ([] : List Keyword).isEmpty then 0 else 1) < 30)) = true := by rfl)
    (hline : (apos.endLine == tpos.line) = true := by rfl) (hs : starEach (e :: es) X.env = (false, eval e X.env) :: starEach es X.env := by rfl) (hplain : (backTo tpos (starEach es X.env)).any (·.1) = false := by rfl) :
    EX X T (.Call (.Attribute o "append" apos) (e :: es) [] tpos) τ M P E := ex_bm PySem.F.plainAttrs_list PySem.F.slot_list_append PySem.F.type_list_append h hbase hfew hline hs hplain
/-! ### o[i] = v -/
/-! ### a new list that may change -/
theorem ex_lstC (h : EA X T es τ M (fun ds M1 => ds.length ≤ sizeLine ∧ ∀ q, q ∉ adr M1 → P (.raw (.ref q)) ((q, .lst ds) :: M1)) E) : EX X T (.List es pos) τ M P E := by
  refine .mk ?_; intro W tk σ G H hE hH Q hP hX
  refine v_lst ?_
  refine h.run W tk σ G H hE hH _ ?_ hX
  intro ds M1 vs G1 H1 ⟨hl, hp⟩ s1 h1 dvs
  refine ⟨by rw [dvs.length]; exact hl, fun p hp' => ?_⟩
  have nM : p ∉ adr M1 := fun z => h1.there p z hp'
  have ha : adr ((p, MC.lst ds) :: M1) = p :: adr M1 := rfl
  have kp : ∀ b o, H1 b = some o → (upd H1 p (.lst vs)) b = some o := fun b o e => by rw [upd_ne (ne_of_none e hp')]; exact e
  refine hP _ _ _ _ _ (hp p nM) (s1.trans ⟨Same.refl _, fun b o _ e => kp b o e, fun _ _ _ g => g, fun b hb => ?_⟩) ⟨fun b o e => kp b o (h1.sub b o e), fun c hc => ?_, fun b hb => ?_, ?_⟩ den_raw
  · rw [ha] at hb
    rcases List.mem_cons.mp hb with rfl | hb
    · exact .inr hp'
    · exact .inl hb
  · rcases List.mem_cons.mp hc with rfl | hc
    · exact ⟨vs, upd_same, dvs⟩
    · exact (h1.mem c hc).up (Same.refl _) fun b hb o e => kp b o e
  · rw [ha] at hb
    rcases List.mem_cons.mp hb with rfl | hb
    · exact h1.sub.free hp'
    · exact h1.out b hb
  · rw [ha]
    exact List.nodup_cons.mpr ⟨nM, h1.nd⟩
end
end Kh

set_option Elab.async false
set_option linter.all false
set_option maxRecDepth 100000
set_option maxHeartbeats 4000000
namespace Kh
open PySem PySem.Spec L2
open PySem.W PySem.Calls PyProof.Rows PySem.HandSPX

/-! ### an own exception class whose __init__ says super().__init__(v); self.f = v -/
abbrev supBody (ns f : Str) (p0 p1 p2 p3 p4 p5 p6 p7 p8 p9 : Pos) : List Stmt :=
  [.Expr (.Call (.Attribute (.Call (.Name "super" p0) [] [] p1) "__init__" p2) [.Name ns p3] [] p4) p5, .Assign [.Attribute (.Name "self" p6) f p7] (.Name ns p8) p9]
structure SupX (P : Program) (K : Frag) (C fI : Addr) (ns f : Str) : Prop where
  T : OexC K C
  iC : findIn K (.ref C) "__init__" = some (some (.ref fI))
  tI : typeIn K (.ref fI) = some (.type "function")
  nf : findIn K (.ref C) f = some none
  al : ks_superIn K C C "__init__" = some (some (.builtin "ValueError.__init__"))
  sV : subIn K (.ref C) (.type "ValueError") = some true
  sC : mroIn K C (.ref C) = some true
  op : nsIn K cStatics "thirdparty.any" = some none
  tp : (P.main.scope.names.lookup ("super" : Str)).isSome = false
  fn : ∃ (oc : Value) (od : Option Addr) (osl : Array (Option Value)) (name qual : Str) (params : Arguments) (scope : Scope) (dV kV doc pm : Value) (an : Option Addr) (cda : Addr) (ct : Value) (cc : Addr) (p0 p1 p2 p3 p4 p5 p6 p7 p8 p9 : Pos) (ar : Arg)
      (ccl : Value) (cdd : Option Addr) (vs : Array Value) (ccs : Array (Option Value)) (file : Str) (tf : Tok) (cl : Value) (cld : Option Addr) (csl : Array (Option Value)),
    K.lookup fI = some ⟨oc, od, .func (ksFn name qual params (supBody ns f p0 p1 p2 p3 p4 p5 p6 p7 p8 p9) scope dV kV doc pm an (.ref cda) ct cc), osl⟩ ∧ codeIn K (.ref cda) qual = true ∧
    (params.posonlyargs ++ params.args).head? = some ar ∧ ar.arg = "self" ∧ scope.kind = .function ∧ scope.isGenerator = false ∧ scope.isCoroutine = false ∧ (∀ x ∈ scope.names, x.2 ≠ .cell) ∧
    scope.names.lookup ("super" : Str) = some .globalImplicit ∧ scope.names.lookup ("__class__" : Str) = some .free ∧ scope.names.lookup ("self" : Str) = some .local ∧ scope.names.lookup ns = some .local ∧
    K.lookup cda = some ⟨ccl, cdd, .fields vs, ccs⟩ ∧ vs[2]? = some (.str file tf) ∧ ((P.main.file : Str) == file) = true ∧ K.lookup cc = some ⟨cl, cld, .cell (some (.ref C)), csl⟩ ∧
    Binds K (ksFn name qual params (supBody ns f p0 p1 p2 p3 p4 p5 p6 p7 p8 p9) scope dV kV doc pm an (.ref cda) ct cc) ["self", ns] [] ∧
    (∀ env : Env, ∃ pl : Sem Bool, eval (.Call (.Attribute (.Call (.Name "super" p0) [] [] p1) "__init__" p2) [.Name ns p3] [] p4) env = (do
      let ov ← attributeBase (.Call (.Name "super" p0) [] [] p1) "__init__" env (eval (.Call (.Name "super" p0) [] [] p1) env)
      standAt p2.atName
      let (f, first) ← holding [ov] (getMethod ov "__init__" pl)
      callWith p4 f first (backTo p4 (starEach [.Name ns p3] env)) []))
  ne : (ns == ("self" : Str)) = false
  nd : (ns == ("__debug__" : Str)) = false

section
variable {prog : Program} {w : World} {A : Around} {E : Value → Shared → Prop} {h : Heap} {g : Array GenState} {d : Drawn} {t : Nat} {os : OsState}
variable {nm q : Str} {C N : Addr} {bs bm : List Value} {hdct : Bool} {sn : List Str} {sub : List Value} {ab : Bool} {col : Option Bool} {dd : Option Addr} {k0 k1 k2 k3 k5 : Option Value}
theorem call_mw {u e t0 : Addr} {rest : List Value} {Q : Value → Shared → Prop}
    (hC : h.get? C = some (excClassObj nm q C N bs bm hdct sn sub ab col dd k0 k1 k2 k3 k5 "ValueError.__new__")) (he : h.get? e = some (HandSPX.excO C t0)) (hu : h.get? u = some (kxs_mw "ValueError.__init__" e)) (hrest : rest.length ≤ sizeLine)
    (hq : ∀ h' t1, (∀ b o, b ≠ e → h.get? b = some o → h'.get? b = some o) → h'.get? e = some (HandSPX.excO C t1) → Q .none ⟨h', g, d, t, os⟩) :
    wpAny (model prog w) A (call (.ref u) rest) Q E ⟨h, g, d, t, os⟩ := by
  refine wpAny_call (codeAny_of_tree ?_)
  show wpAny _ A.in1 (callAny (.ref u) ⟨rest, []⟩) _ _ _
  simp only [callAny]
  refine wpAny_bind (wpAny_load hu ?_)
  simp only [kxs_mw, show (Value.type "method-wrapper" == Value.type "method" || Value.type "method-wrapper" == Value.type "builtin_function_or_method" || Value.type "method-wrapper" == Value.type "method-wrapper") = true by decide, if_true]
  refine W.KFB.if_so (by decide) ?_
  refine wpAny_bind (check_bound_init F.excBase_ValueError.toExcCallFacts hC he rfl ?_)
  refine wpAny_bind (wpAny_pure (wpAny_pure ?_))
  refine ⟨Code.quiet_builtin _ (by decide +kernel), codeAny_builtin F.excBase_ValueError.initEntry ?_⟩
  rw [Around.under_plainId F.excBase_ValueError.init.plain _]
  wp_walk
  refine hq _ h.objs.size (fun b o hb ho => ?_) ?_
  · rw [Heap.get?_update_other _ _ (Ne.symm hb)]
    exact Heap.get?_push_of_some _ ho
  · rw [Heap.get?_update_self _ (Heap.get?_push_of_some _ he) rfl]
    rfl
end
/-- what __init__ leaves of a fresh exception at x -/
structure InitEnd (h h' : Heap) (x C dx t1 : Addr) (f : Str) (v : Value) : Prop where
  keep : ∀ b o, b ≠ x → h.get? b = some o → h'.get? b = some o
  obj : h'.get? x = some { cls := .ref C, dict := some dx, data := .fields #[.ref t1, .none, .none, .none, .bool false, .none] }
  dbig : h.objs.size ≤ dx
  dne : dx ≠ x
  ns : h'.Ns1 dx (fun y => if y = f then some v else none)
structure OwnMade (h h' : Heap) (e C d : Addr) (f : Str) (v : Value) : Prop where
  keep : ∀ b o, h.get? b = some o → h'.get? b = some o
  new : h.objs.size ≤ e
  obj : ∃ oe vs, h'.get? e = some oe ∧ oe.cls = .ref C ∧ oe.dict = some d ∧ oe.data = .fields vs ∧ vs[1]? = some .none
  dbig : h.objs.size ≤ d
  dne : d ≠ e
  ns : h'.Ns1 d (fun y => if y = f then some v else none)
section
variable {prog : Program} {w : World} {A : Around} {E : Value → Shared → Prop} {R : Result → Shared → Prop} {s : Shared} {K : Frag} {mg mb : Str → Option Value} {C fI : Addr} {ns f : Str}
theorem sup_init (T : SupX prog K C fI ns f) {x t0 : Addr} {v : Value} (X : K.In s.heap) (hlim : s.heap.NoLimit) (hx : s.heap.get? x = some (excO C t0)) (hnx : K.lookup x = none) (hroom : A.depth < recursionLimit)
    (hg : s.heap.Ns mainGlobals mg) (hm : mg "super" = none) (hb : s.heap.Ns builtinsNs mb) (hbs : mb "super" = bootBuiltins "super")
    (hq : ∀ h' tk dx t1, InitEnd s.heap h' x C dx t1 f v → R (.ok (.ret .none)) { s with heap := h', toks := tk }) :
    codeAny (model prog w) A (.call (.ref fI) ⟨[.ref x, v], []⟩) R s := by
  obtain ⟨oc, od, osl, name, qual, params, scope, dV, kV, doc, pm, an, cda, ct, cc, p0, p1, p2, p3, p4, p5, p6, p7, p8, p9, ar, ccl, cdd, vs, ccs, file, tf, cl, cld, csl, ho, hcd, hp, har, hk, hgen, hco, hcell, ks, kc, kse, kn, hcode, hvs, hfile, hcc, hbn, hev⟩ := T.fn
  obtain ⟨nm, q, N, bs, bm, sn, sub, ab, col, dd, k0, k1, k2, k3, k5, hC, hbm⟩ := T.T.cls
  have hcl : clsIn K C = some { name := nm, bases := bs, mro := .ref C :: bm, ns := N, qualname := q, hasDict := true, slotNames := sn, subclasses := sub, abstract := ab, collection := col, hasDel := false } := by unfold clsIn; rw [hC] <;> rfl
  refine ks_codeAny_call_defAt (fd := ksFn name qual params (supBody ns f p0 p1 p2 p3 p4 p5 p6 p7 p8 p9) scope dV kV doc pm an (.ref cda) ct cc) (binds := [("self", .ref x), (ns, v)]) hroom (X _ _ ho) rfl hlim (codeRec_of X hcd) rfl
    (hbn s [.ref x, v] X rfl) hcell (fun y hy => ?_) (fun h₁ hns k => ?_) hco hgen hk
  · rcases List.mem_cons.mp hy with rfl | hy
    · exact kse
    · rcases List.mem_cons.mp hy with rfl | hy
      · exact kn
      · cases hy
  have X₁ : K.In h₁ := X.keeps k
  have hx₁ := k _ _ hx
  have e1 : List.lookup ns ([(("self" : Str), Value.ref x), (ns, v)].reverse) = some v := by simp [List.lookup]
  have e2 : List.lookup ("self" : Str) ([(("self" : Str), Value.ref x), (ns, v)].reverse) = some (.ref x) := by
    have n2 : (("self" : Str) == ns) = false := by
      have := T.ne
      cases z : (("self" : Str) == ns) with
      | false => rfl
      | true =>
        have z2 : ("self" : Str) = ns := by simpa using z
        rw [← z2] at this
        simp at this
    show List.lookup ("self" : Str) [(ns, v), (("self" : Str), Value.ref x)] = _
    rw [List.lookup_cons, n2]
    simp [List.lookup]
  obtain ⟨hh, gs, dr, tk, os⟩ := s
  have I₁ : InstAt h₁ x (excO C t0) C none := ⟨hx₁, rfl, rfl, trivial⟩
  have hCd : clsIn K C = some _ := hcl
  have hxC : x ≠ C := fun z => by rw [z, hC] at hnx; cases hnx
  obtain ⟨pl, hev⟩ := hev (ksEnv qual scope hh.objs.size fI (.ref cda) cc)
  refine ks_wpAt_execs_cons (ks_wpAt_Expr_any (ks_wpAt_MethodCall ?_ hev) (by show (scope.kind == .module && _) = false; rw [hk]; rfl) (by rfl))
  refine ks_wpAt_super_base (env := ksEnv qual scope hh.objs.size fI (.ref cda) cc) ks kc (by decide) rfl (X₁ _ _ ho) rfl hp rfl (X₁ _ _ hcode) rfl hvs hfile T.tp ?_
  refine ks_loadName_global hk ks (loadGlobal_builtin (env := ksEnv qual scope hh.objs.size fI (.ref cda) cc) (hg.keeps k) hm (hb.keeps k) (hbs.trans Boot.«super») ⟨rfl, ?_⟩)
  refine wpAny_loadName_free hk kc rfl ⟨_, X₁ _ _ hcc, rfl⟩ ?_
  rw [har]
  refine wpAny_loadName_local hk kse hns e2 ?_
  refine ks_wpAny_isType_cls (X₁ _ _ hC) rfl ⟨rfl, ?_⟩
  refine ks_wpAny_call_super (X₁ _ _ hC) rfl hx₁ rfl (fun c e => by cases e) (looks_mroIn X₁ T.sC) (fun h₂ hso k₂ => ?_)
  have X₂ : K.In h₂ := X₁.keeps k₂
  have hx₂ := k₂ _ _ hx₁
  have I₂ : InstAt h₂ x (excO C t0) C none := ⟨hx₂, rfl, rfl, trivial⟩
  have al := T.al
  unfold ks_superIn at al
  rw [hcl] at al
  refine kxs_getMethod kxs_ValueError hso (looks_opaque X₂ T.op) (l₀ := .ref C :: bm) ?_ rfl X₂ al (I₂.type.andThen (looks_subIn X₂ T.sV)) hxC (by decide) ?_
  · exact fun A Q E s k q => wpAny_bind ((looks_clsIn X₂ hcl) A _ E s k (wpAny_pure q))
  refine kxs_callWith (i := "ValueError.__init__") (x := x) (by rfl) (Calls.evalArgs_plain (Calls.spliced_cons ?_))
  have k₃ : ∀ b o, h₂.get? b = some o → (h₂.push (kxs_mw "ValueError.__init__" x)).get? b = some o := fun b o e => Heap.get?_push_of_some _ e
  have hns₃ := (hns.keeps k₂).keeps k₃
  refine wpAny_Name (wpAny_loadName_local hk kn hns₃ e1 (Calls.spliced_nil ⟨Heap.get?_push_at rfl rfl, ?_⟩)) T.nd
  refine call_mw ((X₂.keeps k₃) _ _ hC) (k₃ _ _ hx₂) (Heap.get?_push_at rfl rfl) (by show 1 ≤ sizeLine; decide) (fun h₄ t1 k₄ hx₄ => ?_)
  have kk : ∀ b o, b ≠ x → h₁.get? b = some o → h₄.get? b = some o := fun b o nb e => k₄ b o nb (k₃ _ _ (k₂ _ _ e))
  have neL : hh.objs.size ≠ x := fun z => absurd (Heap.lt_size hx) (by rw [z]; exact Nat.lt_irrefl _)
  have hns₄ : h₄.Ns hh.objs.size (fun y => List.lookup y ([(("self" : Str), Value.ref x), (ns, v)].reverse)) := by
    obtain ⟨o, es, ep, a1, r⟩ := hns
    exact ⟨o, es, ep, kk _ _ neL a1, r⟩
  have X₄ : K.In h₄ := fun b o e => kk b o (fun z => by rw [z, hnx] at e; cases e) (X₁ _ _ e)
  refine ks_wpAt_execs_cons (ks_wpAt_Assign_Attr ?_ (by rfl))
  refine wpAt_of_wpAny (wpAny_Name (wpAny_loadName_local hk kn hns₄ e1 ?_) T.nd)
  refine wpAny_Name (wpAny_loadName_local hk kse hns₄ e2 ?_) (by decide)
  refine set_plain X₄ (ox := excO C t1) (od := none) ⟨hx₄, rfl, rfl, trivial⟩ T.T.sa ?_
  refine exc_osa X₄ hx₄ hcl (show refsVE (.ref C :: bm) = true from hbm) rfl T.nf (fun h₅ tk₅ dx k₅ dn dne hx₅ hn₅ => ?_)
  have z : hh.objs.size ≤ h₄.objs.size := by
    obtain ⟨o, es, ep, a1, r⟩ := hns₄
    exact Nat.le_of_lt (Heap.lt_size a1)
  refine wpAt_of_wpAny (wpAny_execs_nil (hq h₅ tk₅ dx t1 ⟨fun b o nb e => k₅ b o nb (kk b o nb (k b o e)), hx₅, Nat.le_trans z dn, dne, hn₅⟩))
theorem sup_made (T : SupX prog K C fI ns f) {v : Value} (X : K.In s.heap) (hlim : s.heap.NoLimit) (hroom : A.depth + 1 < recursionLimit)
    (hg : s.heap.Ns mainGlobals mg) (hm : mg "super" = none) (hb : s.heap.Ns builtinsNs mb) (hbs : mb "super" = bootBuiltins "super")
    (hq : ∀ h' tk e d, OwnMade s.heap h' e C d f v → R (.ok (.ret (.ref e))) { s with heap := h', toks := tk }) :
    codeAny (model prog w) A (.call (.ref C) ⟨[v], []⟩) R s := by
  obtain ⟨nm, q, N, bs, bm, sn, sub, ab, col, dd, k0, k1, k2, k3, k5, hC, hbm⟩ := T.T.cls
  obtain ⟨hp, gs, dr, tk, os⟩ := s
  have k : ∀ b o, hp.get? b = some o → ((hp.push (kdv_tup [v])).push (excO C hp.objs.size)).get? b = some o := fun b o e => Heap.get?_push_of_some _ (Heap.get?_push_of_some _ e)
  have hget : ((hp.push (kdv_tup [v])).push (excO C hp.objs.size)).get? (hp.objs.size + 1) = some (excO C hp.objs.size) := by heap_get
  have hnx : K.lookup (hp.objs.size + 1) = none := by
    cases e : K.lookup (hp.objs.size + 1) with
    | none => rfl
    | some o =>
      have z : hp.get? (hp.objs.size + 1) = some o := X _ _ e
      exact absurd (Nat.lt_of_succ_lt (Heap.lt_size z)) (Nat.lt_irrefl _)
  refine call_own F.excBase_ValueError (fun X => refsVE_contains X bm hbm) (X _ _ hC) (looks_findIn X T.iC) (fun self => bind_fn X self T.tI) (by show 1 ≤ sizeLine; decide) ?_
  refine sup_init (s := ⟨(hp.push (kdv_tup [v])).push (excO C hp.objs.size), gs, dr, tk, os⟩) T (X.keeps k) (hlim.keeps k) hget hnx ?_ (hg.keeps k) hm (hb.keeps k) hbs fun h' tk' dx t1 ⟨k', hx, dn, dne, hns⟩ => ?_
  · show A.depth + 1 < recursionLimit
    exact hroom
  · have old : ∀ b o, hp.get? b = some o → h'.get? b = some o := fun b o e => k' b o (Nat.ne_of_lt (Nat.lt_succ_of_lt (Heap.lt_size e))) (k b o e)
    have z : hp.objs.size + 1 + 1 ≤ dx := by
      first
        | (simpa only [Heap.size_push] using dn)
        | exact dn
        | (have q := dn; rw [Heap.size_push, Heap.size_push] at q; exact q)
    exact ⟨rfl, hq h' tk' (hp.objs.size + 1) dx ⟨old, Nat.le_succ _, ⟨_, _, hx, rfl, rfl, rfl, rfl⟩, Nat.le_trans (Nat.le_trans (Nat.le_succ _) (Nat.le_succ _)) z, dne, hns⟩⟩
end
end Kh
namespace Kh
open PySem PySem.Spec L2
theorem relO_one {f : Str} {v : V} {v' : Value} (r : RelV v v') (g : Str) : RelO (List.lookup g [(f, v)]) (if g = f then some v' else none) := by
  by_cases hw : g = f
  · subst hw
    rw [if_pos rfl]
    have q : List.lookup g [(g, v)] = some v := by simp [List.lookup]
    rw [q]
    exact r
  · rw [if_neg hw]
    have qw : (g == f) = false := by simpa using hw
    have q2 : List.lookup g [(f, v)] = none := by simp [List.lookup, qw]
    rw [q2]
    trivial
section
variable {X : Cx} {C fI : Addr} {ns f : Str}
/-- C(e) -/
def tMkS (C : Addr) (f : Str) (ta : TA) : L2.St → Hp → XK → Prop := fun σ H Q => ta σ H fun vs H1 => ∃ v, vs = [v] ∧ ∀ d, H1 d = none → Q (.ref C) (some d) (upd H1 d (.xd [(f, v)]))
theorem pmk_sup {a : Expr} {ta : TA} {x : Str} {p pos : Pos} {k : Nat} (T : SupX X.prog X.K C fI ns f) (gC : X.mg x = some (.ref C)) (hms : X.mg "super" = none) (hr : Room k X.A) (ha : PA X [a] ta) (hg : Gl X x) (hdb : (x == ("__debug__" : Str)) = false := by decide)
    (he : starEach (a :: []) X.env = (false, eval a X.env) :: starEach [] X.env := by rfl) (hpl : (backTo pos (starEach [] X.env)).any (·.1) = false := by rfl) :
    PMk X (.Call (.Name x p) [a] [] pos) (tMkS C f ta) := by
  intro pins s σ H Q I h
  refine wpAny_Call_Name_kw (ld_glob I hg gC ?_ hdb)
  refine PySem.W.callWith_K (h₀ := X.base) I.ok.mod.kin T.T.kC (thn (ha.run pos pins s σ H _ I h) fun us s1 hh => ?_) he hpl
  obtain ⟨vs, H1, I1, r1, v, ev, q1⟩ := hh
  subst ev
  refine ⟨I1.kIn, ?_⟩
  cases r1 with
  | cons rv rn =>
    rename_i v' us'
    cases rn
    show wpAny _ _ (call (.ref C) [v']) _ _ _
    have hlim := I1.nolimit
    have hgl := I1.mod.glob.keeps I1.bk
    obtain ⟨mb, hb1, hb2⟩ := I1.mod.blt
    have hbl := hb1.keeps I1.bk
    obtain ⟨hp, g, dr, tk, os⟩ := s1
    refine wpAny_call (sup_made T I1.kIn hlim (by have := hr.dp; omega) hgl hms hbl (hb2 _ (by decide)) fun h' tk' e d M => ?_)
    show MkP X pins σ Q (.ref e) ⟨h', g, dr, tk', os⟩
    obtain ⟨oe, fv, hoe, hc, hd, hdat, h1⟩ := M.obj
    have hns := M.ns
    obtain ⟨G', g1, g2⟩ := restrict h' fun b => decide (b ≠ e)
    have gk : ∀ b, b ≠ e → G'.get? b = h'.get? b := fun b hb => g1 b (decide_eq_true hb)
    have ge : G'.get? e = none := g2 e (by simp)
    have old : ∀ b o, hp.get? b = some o → G'.get? b = some o := fun b o q => (gk b (Nat.ne_of_lt (Nat.lt_of_lt_of_le (Heap.lt_size q) M.new))).trans (M.keep b o q)
    have ob : ObjOk X.prog X.w (upd H1 d (.xd [(f, v)])) G' d (.xd [(f, v)]) :=
      ⟨_, hns.at (fun o q => (gk d M.dne).trans q), fun g => relO_one rv g⟩
    have J : Inv X pins σ (upd H1 d (.xd [(f, v)])) ⟨G', g, dr, tk', os⟩ := I1.laid (t' := tk') old M.dbig ob
    refine ⟨e, oe, fv, ⟨G', g, dr, tk', os⟩, _, .ref C, some d, rfl, J, fun b o q => ?_, ge, hoe, ⟨hc, hd⟩, hdat, h1, ?_, rfl, I1.bare, raises_own T.T.exC T.T.tyC, q1 d (I1.hok.fresh M.dbig)⟩
    · by_cases hb : b = e
      · have q' : G'.get? b = some o := q
        rw [hb, ge] at q'; cases q'
      · exact (gk b hb).symm.trans q
    · rw [upd_ne (Ne.symm M.dne)]
      exact I1.hok.fresh M.new
end
section
variable {X : Cx} {T : Bool} {τ : TEnv} {M : Mem} {P : PK'} {E : XKx} {e a b c : Expr} {es : List Expr} {pos p pos2 : Pos} {R : RK} {rest : List Stmt} {x n f ns : Str} {C fI : Addr} {k : Nat}
/-- raise C(e) -/
theorem ws_raise (hc : X.calm = true) (S : SupX X.prog X.K C fI ns f) (gC : X.mg x = some (.ref C)) (hms : X.mg "super" = none) (hr : Room k X.A)
    (h : EX X false e τ M (fun d M1 => R (.ex ⟨C, [f], [d]⟩ τ) M1) (fun y M1 => R (.ex y τ) M1)) (hg : Gl X x := by rfl) (hdb : (x == ("__debug__" : Str)) = false := by decide)
    (he : starEach (e :: []) X.env = (false, eval e X.env) :: starEach [] X.env := by rfl) (hpl : (backTo pos (starEach [] X.env)).any (·.1) = false := by rfl) :
    WS X T (.Raise (some (.Call (.Name x p) [e] [] pos)) none pos2 :: rest) τ M R := .mk fun W tk σ G H hE hH D hR => by
  refine ws_step (ps_raise hc tk (pmk_sup (ta := tWA X false [e]) S gC hms hr pa_W hg hdb he hpl)) ?_
  refine wa_cons (Q := fun vs H1 => ∃ v, vs = [v] ∧ ∀ d, H1 d = none → W (.ref C) (some d) σ (upd H1 d (.xd [(f, v)]))) he ?_
  refine h.run W tk σ G H hE hH _ ?_ (ex_out hR hE)
  intro d M1 v G1 H1 hp s1 h1 dv
  refine tWA_of pa_nil ?_
  refine ⟨v, rfl, fun dd hd => ?_⟩
  obtain ⟨s2, h2⟩ := Stp.new (o := .xd [(f, v)]) h1 hd
  exact hR _ _ _ _ hp (s1.trans s2) h2 σ (some dd) ((hE.up s1.gg).up s2.gg) (.inr ⟨dd, [v], rfl, upd_same, .cons (dv.up s2.gg) .nil⟩)
/-- the ends of an except suite: its name goes -/
def suiteR (i : Nat) (k : TEnv → Mem → Prop) (R : RK) : RK
  | .nx τ, M => k (τ.set i none) M
  | .ct τ, M => R (.ct (τ.set i none)) M
  | .bk τ, M => R (.bk (τ.set i none)) M
  | .rt d, M => R (.rt d) M
  | .ex _ _, _ => False
/-- err.f in the suite -/
theorem ex_ev {a dd : Addr} {oe : Obj} {pn : List (Addr × Obj)} {xns : List Str} {ds : List Dat} {z : Dat} (Tx : XfC X.K C) (hno : PySem.W.findIn X.K (.ref C) f = some none) (hz : Zc (.ref C) (some dd) oe) (hv : ∃ vs, oe.data = .fields vs)
    (ht : X.N[ixIn X.N n]? = some n ∧ τ[ixIn X.N n]? = some (some (.xn a dd xns ds))) (hl : (xns.zip ds).lookup f = some z) (h : P z M) (hvis : Vis X.env.scope n := by first | exact Or.inl rfl | exact Or.inr (Or.inl rfl) | exact Or.inr (Or.inr rfl))
    (hd : (n == ("__debug__" : Str)) = false := by decide) (hcd : (n == ("__classdict__" : Str)) = false := by decide) (hb : attributeBase (.Name n p) f X.env (eval (.Name n p) X.env) = eval (.Name n p) X.env := by rfl) :
    EX (X.suite a ((a, oe) :: pn)) T (.Attribute (.Name n p) f pos) τ M P E := .mk fun W tk σ G H hE hH Q hP hX => by
  obtain ⟨v, h1, h2⟩ := hE _ _ ht.2
  obtain ⟨vs, rfl, g1, g2⟩ := h2.xn_inv
  obtain ⟨u, l1, l2⟩ := denL_lookup g2 hl
  have q := pe_xf Tx hno hz hv (pe_var (X := X.suite a ((a, oe) :: pn)) (pos := p) ht.1 hvis hd hcd) (pos := pos) hb
  refine tW_of q ?_
  exact ⟨_, h1, rfl, rfl, dd, _, u, rfl, hH.sub _ _ g1, l1, hP _ _ _ _ _ h Stp.refl hH l2⟩
end
end Kh

set_option Elab.async false
set_option linter.all false
set_option maxRecDepth 100000
set_option maxHeartbeats 1000000
namespace Kh
open PySem PySem.Spec L2
section
variable {X : Cx} {T : Bool} {τ : TEnv} {M : Mem} {P : PK'} {E : XKx} {e a b c o value : Expr} {es : List Expr} {pos pos' apos tpos : Pos} {R : RK} {rest : List Stmt} {x : Str}
/-- the name of a built-in type -/
theorem ex_gty {n : String} (hm : X.mg x = none) (hv : bootBuiltins x = some (.type n)) (h : P (.raw (.ty n)) M) (hg : Gl X x := by rfl) (hn : x ≠ "__name__" := by decide) (hd : (x == ("__debug__" : Str)) = false := by decide) : EX X T (.Name x pos) τ M P E :=
  ex_c (pe_bltn (v := .ty n) hg hm hv rfl hn hd) (fun _ => den_raw) h
/-- a list cell is changed no more -/
def FrzP (P : PK') : PK' := fun d M => ∃ p ds M3, d = .raw (.ref p) ∧ M.Perm ((p, .lst ds) :: M3) ∧ P (.lst ds) M3
theorem ex_frz (h : EX X T e τ M (FrzP P) E) : EX X T e τ M P E := .mk fun W tk σ G H hE hH Q hP hX =>
  h.run W tk σ G H hE hH Q (fun d M2 v G2 H2 ⟨p, ds, M3, ed, pm, hp⟩ s h2 dv => by
    subst ed
    obtain ⟨G', s3, h3, d3⟩ := freezeL (h2.perm pm)
    rw [dv.raw_inv]
    exact hP _ _ _ _ _ hp ((s.perm (List.Perm.refl _) pm).trans s3) h3 d3) hX
/-- cells that nothing names any more -/
theorem Hst.drop {K : PySem.W.Frag} {G H : Hp} {A B : Mem} (h : Hst K G (A ++ B) H) : Hst K G A H := h.left
theorem Stp.drop {G H G2 H2 : Hp} {A B : Mem} (s : Stp G M H G2 (A ++ B) H2) : Stp G M H G2 A H2 := ⟨s.gg, s.hh, s.fr, fun b hb => s.ad b (by rw [adr_append]; exact List.mem_append_left _ hb)⟩
theorem ws_drop {ss : List Stmt} {A B : Mem} (pm : M.Perm (A ++ B)) (h : WS X T ss τ A R) : WS X T ss τ M R := .mk fun W tk σ G H hE hH D hR => by
  have h2 := hH.perm pm
  have s2 : Stp G M H G A H := (Stp.refl.perm (List.Perm.refl _) pm).drop
  exact h.run W tk σ G H hE h2.drop D (hR.step s2)
end
/-- the class that an except clause names: own classes -/
theorem exm_of {K : PySem.W.Frag} {S D : Addr} {b : Bool} (h1 : PySem.W.subIn K (.ref D) (.type "BaseException") = some true) (h2 : PySem.W.isClsIn K D = true) (h3 : PySem.W.typeIn K (.ref D) = some (.type "type")) (h4 : PySem.W.subIn K (.ref S) (.ref D) = some b) :
    PySem.W.exmOne K (.ref S) (.ref D) = some b := by
  have e1 : (PySem.W.subIn K (.ref D) (.type "BaseException") == some true) = true := by rw [h1] <;> rfl
  have e2 : ((PySem.W.clsIn K D).isSome && PySem.W.typeIn K (.ref D) == some (.type "type")) = true := by
    have h2' : (PySem.W.clsIn K D).isSome = true := h2
    rw [h2', h3] <;> rfl
  show (if (PySem.W.subIn K (.ref D) (.type "BaseException") == some true) = true then (if ((PySem.W.clsIn K D).isSome && PySem.W.typeIn K (.ref D) == some (.type "type")) = true then PySem.W.subIn K (.ref S) (.ref D) else none) else none) = some b
  rw [if_pos e1, if_pos e2]
  exact h4
/-- the law's def at its script -/
theorem law_spS {K : PySem.W.Frag} {H : Hp} {a : Addr} {ns : List Int} {S : Spc} (hS : SqL K H a (ns.map V.int)) (h : S [.scr ns] [] (fun d _ => d = .bl true) E0') : toSp K S [.ref a] H (fun v _ => v = .bl true) fun _ _ _ => False :=
  ⟨H, [.scr ns], [], _, _, .cons (by simp only [Den]; exact ⟨a, rfl, hS⟩) .nil, ⟨Same.refl _, (fun _ h => by cases h), (fun _ h => by cases h), List.Pairwise.nil⟩, h, fun d M2 v G2 H2 e s h2 dv => by subst e; exact dv.bl_inv, noX⟩
/-! ### isinstance(d, int), isinstance(d, bool) of plain data -/
section
variable {K : PySem.W.Frag}
end
/-! ### calls of defs, all cells handed -/
def UpP {α : Type} (P : α → Mem → Prop) : α → Mem → Prop := fun d Mc => ∃ M2, (Mc ++ []).Perm M2 ∧ P d M2
theorem UpP.mk {α : Type} {P : α → Mem → Prop} {d : α} {M : Mem} (h : P d M) : UpP P d M := ⟨M, by rw [List.append_nil], h⟩
theorem ap_all {S : Spc} {ds : List Dat} {M : Mem} {P : PK'} {E : XKx} (h : S ds M (UpP P) (UpP E)) : AP S ds M P E := ⟨M, [], by rw [List.append_nil], h⟩
section
variable {X : Cx} {T : Bool} {τ : TEnv} {M : Mem} {P : PK'} {E : XKx} {e o : Expr} {es : List Expr} {pos p apos : Pos} {k : Nat} {f C : Addr} {fd : FuncData} {ps : List Str} {S : Spc} {x m qual : Str} {st : Stmt}
theorem ex_callF (F : FnD X.prog X.w X.K X.mg X.base k f fd ps S) (hr : Room k X.A) (hm : X.mg x = some (.ref f)) (FF : Fun X.K x qual st f fd) (hb : Binds X.K fd ps [])
    (h : EA X T (e :: es) τ M (fun ds M1 => S ds M1 (UpP P) (UpP E)) E) (hg : Gl X x := by rfl) (hdb : (x == ("__debug__" : Str)) = false := by decide) (he : starEach (e :: es) X.env = (false, eval e X.env) :: starEach es X.env := by rfl) (hpl : (backTo pos (starEach es X.env)).any (·.1) = false := by rfl) :
    EX X T (.Call (.Name x p) (e :: es) [] pos) τ M P E := ex_call (df := []) (dvs := []) F hr hm FF.kp hb .nil (fun _ => .nil) (.mk fun W tk σ G H hE hH Q hP hX => h.run W tk σ G H hE hH Q (fun ds M2 vs G2 H2 hs => hP ds M2 vs G2 H2 (by show AP S (ds ++ []) M2 P E; rw [List.append_nil]; exact ap_all hs)) hX) hg hdb he hpl
end
section
variable {X : Cx} {T : Bool} {τ : TEnv} {M : Mem} {R : RK} {rest : List Stmt}
/-- a, b = x, y with plain local names -/
theorem ws_par {x y : Str} {a b : Expr} {px py pt pos : Pos} {kt k2 pt2} (h : EA X false [a, b] τ M (fun ds M1 => ∃ d1 d2, ds = [d1, d2] ∧ WS X T rest ((τ.set (ixIn X.N x) (some d1)).set (ixIn X.N y) (some d2)) M1 R) (fun z M1 => R (.ex z τ) M1))
    (hc : X.calm = true := by rfl) (hi : X.N[ixIn X.N x]? = some x := by rfl) (hj : X.N[ixIn X.N y]? = some y := by rfl) (hij : ixIn X.N x ≠ ixIn X.N y := by first | decide | exact of_decide_eq_true (by kernel_rfl)) (hN : X.N.Nodup := by first | decide +kernel | exact of_decide_eq_true (by kernel_rfl))
    (hx : X.env.scope.names.lookup x = some .local := by rfl) (hy : X.env.scope.names.lookup y = some .local := by rfl)
    (hw : swappedStores [.Tuple [.Name x px, .Name y py] kt pt] (.Tuple [a, b] k2 pt2) X.env = pure (some [x, y]) := by rfl)
    (hs : swapsWithSole [.Tuple [.Name x px, .Name y py] kt pt] (.Tuple [a, b] k2 pt2) pos.line X.env = pure false := by rfl) :
    WS X T (.Assign [.Tuple [.Name x px, .Name y py] kt pt] (.Tuple [a, b] k2 pt2) pos :: rest) τ M R := .mk fun W tk σ G H hE hH D hR => tWSs_len fun hl => by
  refine ws_step (ps_par hc hN hi hj hij hx hy pa_W hw hs) ?_
  refine h.run W tk σ G H hE hH _ ?_ (ex_out hR hE)
  rintro ds M1 vs G1 H1 ⟨d1, d2, rfl, hk⟩ s1 h1 dv
  obtain ⟨v, u, rfl, e1, e2⟩ := two_inv dv
  refine ⟨v, u, rfl, ?_⟩
  have l1 : ixIn X.N x < σ.length := by rw [hl]; exact (List.getElem?_eq_some_iff.mp hi).1
  have l2 : ixIn X.N y < (σ.set (ixIn X.N x) (some v)).length := by rw [List.length_set, hl]; exact (List.getElem?_eq_some_iff.mp hj).1
  exact hk.run W tk _ G1 H1 (((hE.up s1.gg).set l1 e1).set l2 e2) h1 D (hR.step s1)
end
/-- ** of a wide base -/
def CPowW (i j : Int) : Prop := 0 ≤ j ∧ (Builtin.Int.intBits i : Int) * j ≤ 2 ^ 27
instance {i j : Int} : Decidable (CPowW i j) := inferInstanceAs (Decidable (_ ∧ _))
theorem op_powW {X : Cx} : OpR X (binaryOp .Pow) (rI CPowW fun i j => .int (i ^ j.toNat)) := opI fun _ _ _ _ _ _ _ hc q => PyProof.Rows.pow_int hc.1 hc.2 q
theorem o_powW {X : Cx} {T : Bool} {M : Mem} {P : PK'} {i j : Int} (hc : CPowW i j) (h : P (.int (i ^ j.toNat)) M) : OP X T (binaryOp .Pow) (.int i) (.int j) M P := op_IIc op_powW hc (fun _ => den_int) h
theorem WS.imp {X : Cx} {T : Bool} {τ : TEnv} {M : Mem} {R R' : RK} {ss : List Stmt} (h : WS X T ss τ M R') (hi : ∀ o M2, R' o M2 → R o M2) : WS X T ss τ M R := .mk fun W tk σ G H hE hH D hR =>
  h.run W tk σ G H hE hH D fun o M2 G2 H2 r s h2 => hR o M2 G2 H2 (hi _ _ r) s h2
end Kh

set_option Elab.async false
set_option linter.all false
set_option maxRecDepth 100000
set_option maxHeartbeats 1000000
namespace Kh
open PySem PySem.Spec L2
/-! ### data that are equal by their shape, or are one object -/
mutual
def eqT : Dat → Dat → Bool
  | .non, .non => true
  | .bl a, .bl b => decide (a = b)
  | .int i, .int j => decide (i = j)
  | .str s, .str t => decide (s = t)
  | .lst xs, .lst ys => eqTL xs ys
  | .tup xs, .tup ys => eqTL xs ys
  | .at a _, .at b _ => decide (a = b)
  | .raw (.ref a), .raw (.ref b) => decide (a = b)
  | _, _ => false
def eqTL : List Dat → List Dat → Bool
  | [], [] => true
  | x :: xs, y :: ys => eqT x y && eqTL xs ys
  | _, _ => false
end
mutual
def dpD : Dat → Nat
  | .lst xs => dpDL xs + 1
  | .tup xs => dpDL xs + 1
  | _ => 1
def dpDL : List Dat → Nat
  | [] => 0
  | x :: xs => max (dpD x) (dpDL xs)
end
theorem all_true (n : Nat) : ((List.range n).all fun _ => true) = true := List.all_eq_true.mpr fun _ _ => rfl
section
variable {X : Cx} {pins : List (Addr × Obj)} {σ : L2.St} {H G : Hp} {s : Shared}
open PySem.SeqAt (EqAt RcAt RcNeAt)
theorem eqTL_len : ∀ {xs ys : List Dat}, eqTL xs ys = true → xs.length = ys.length
  | [], [], _ => rfl
  | x :: xs, y :: ys, h => by
    simp only [eqTL, Bool.and_eq_true] at h
    simp only [List.length_cons, eqTL_len h.2]
  | [], _ :: _, h => by simp [eqTL] at h
  | _ :: _, [], h => by simp [eqTL] at h
mutual
theorem eqT_run (I : Inv X pins σ H s) (hs : Same G H) : ∀ (x y : Dat) (A : Around) (v u : V) (v' u' : Value), eqT x y = true → A.units + dpD x < cLine → Den X.K G x v → Den X.K G y u → RelV v v' → RelV u u' → EqAt A s v' u' true
  | .non, y, A, v, u, v', u', h, hu, dx, dy, r, r' => by
    cases y <;> simp [eqT] at h
    rw [dx.non_inv] at r; rw [dy.non_inv] at r'
    exact eqAt_same r r' rfl
  | .bl a, y, A, v, u, v', u', h, hu, dx, dy, r, r' => by
    cases y <;> simp [eqT] at h
    subst h
    rw [dx.bl_inv] at r; rw [dy.bl_inv] at r'
    exact eqAt_same r r' rfl
  | .int i, y, A, v, u, v', u', h, hu, dx, dy, r, r' => by
    cases y <;> simp [eqT] at h
    subst h
    rw [dx.int_inv] at r; rw [dy.int_inv] at r'
    exact eqAt_same r r' rfl
  | .str i, y, A, v, u, v', u', h, hu, dx, dy, r, r' => by
    cases y <;> simp [eqT] at h
    subst h
    rw [dx.str_inv] at r; rw [dy.str_inv] at r'
    exact eqAt_same r r' rfl
  | .at a d, y, A, v, u, v', u', h, hu, dx, dy, r, r' => by
    cases y <;> simp [eqT] at h
    subst h
    obtain ⟨rfl, _⟩ := dx.at_inv
    obtain ⟨rfl, _⟩ := dy.at_inv
    cases r; cases r'
    exact EqAt.same _
  | .lst xs, y, A, v, u, v', u', h, hu, dx, dy, r, r' => by
    cases y with
    | lst ys =>
      have h : eqTL xs ys = true := by simpa [eqT] using h
      have hu : A.units + (dpDL xs + 1) < cLine := by simpa only [dpD] using hu
      obtain ⟨a, vs, rfl, ga, da⟩ := dx.lst_inv
      obtain ⟨b, us, rfl, gb, db⟩ := dy.lst_inv
      cases r; cases r'
      by_cases e : a = b
      · subst e; exact EqAt.same _
      · obtain ⟨ws, r1, p1, _⟩ := I.list (SqL.of (hs _ _ ga))
        obtain ⟨zs, r2, p2, _⟩ := I.list (SqL.of (hs _ _ gb))
        have hz : ws.toArray.size = zs.toArray.size := by rw [List.size_toArray, List.size_toArray, ← r1.length, ← r2.length, da.length, db.length, eqTL_len h]
        refine EqAt.of_refs e ?_
        have := RcAt.lists (A := A) (e := fun _ => true) p1.isList p2.isList hz (by omega) (fun j h1 h2 => by
          have := eqTL_run I hs xs ys A.in1 vs us ws zs h (by show A.units + 1 + dpDL xs < cLine; omega) da db r1 r2 j (by simpa using h1) (by simpa using h2)
          simpa using this)
        rw [all_true] at this
        exact this
    | _ => simp [eqT] at h
  | .tup xs, y, A, v, u, v', u', h, hu, dx, dy, r, r' => by
    cases y with
    | tup ys =>
      have h : eqTL xs ys = true := by simpa [eqT] using h
      have hu : A.units + (dpDL xs + 1) < cLine := by simpa only [dpD] using hu
      obtain ⟨a, vs, rfl, ga, da⟩ := dx.tup_inv
      obtain ⟨b, us, rfl, gb, db⟩ := dy.tup_inv
      cases r; cases r'
      by_cases e : a = b
      · subst e; exact EqAt.same _
      · obtain ⟨ws, r1, p1, _⟩ := I.tuple (SqT.of (hs _ _ ga))
        obtain ⟨zs, r2, p2, _⟩ := I.tuple (SqT.of (hs _ _ gb))
        have hz : ws.toArray.size = zs.toArray.size := by rw [List.size_toArray, List.size_toArray, ← r1.length, ← r2.length, da.length, db.length, eqTL_len h]
        refine EqAt.of_refs e ?_
        have := RcAt.tuples (A := A) (e := fun _ => true) p1 p2 (by omega) (fun j h1 h2 => by
          have := eqTL_run I hs xs ys A.in1 vs us ws zs h (by show A.units + 1 + dpDL xs < cLine; omega) da db r1 r2 j (by simpa using h1) (by simpa using h2)
          simpa using this)
        rw [all_true, hz] at this
        simpa using this
    | _ => simp [eqT] at h
  | .raw w, y, A, v, u, v', u', h, hu, dx, dy, r, r' => by
    have e : ∃ a, w = .ref a ∧ y = .raw (.ref a) := by
      cases y with
      | raw z =>
        cases w <;> cases z <;> simp [eqT] at h
        subst h; exact ⟨_, rfl, rfl⟩
      | _ => cases w <;> simp [eqT] at h
    obtain ⟨a, rfl, rfl⟩ := e
    rw [dx.raw_inv] at r; rw [dy.raw_inv] at r'
    cases r; cases r'
    exact EqAt.same _
  | .dic0, y, A, v, u, v', u', h, hu, dx, dy, r, r' => by simp [eqT] at h
  | .scr ns, y, A, v, u, v', u', h, hu, dx, dy, r, r' => by simp [eqT] at h
  | .obj C ns ds, y, A, v, u, v', u', h, hu, dx, dy, r, r' => by simp [eqT] at h
  | .xn a dd ns ds, y, A, v, u, v', u', h, hu, dx, dy, r, r' => by simp [eqT] at h
theorem eqTL_run (I : Inv X pins σ H s) (hs : Same G H) : ∀ (xs ys : List Dat) (A : Around) (vs us : List V) (ws zs : List Value), eqTL xs ys = true → A.units + dpDL xs < cLine → DenL X.K G xs vs → DenL X.K G ys us → Vals vs ws → Vals us zs →
    ∀ j (h1 : j < ws.length) (h2 : j < zs.length), EqAt A s ws[j] zs[j] true
  | [], ys, A, vs, us, ws, zs, h, hu, dx, dy, r, r', j, h1, h2 => by
    rw [dx.nil_inv] at r
    cases r
    exact absurd h1 (Nat.not_lt_zero _)
  | x :: xs, ys, A, vs, us, ws, zs, h, hu, dx, dy, r, r', j, h1, h2 => by
    cases ys with
    | nil => simp [eqTL] at h
    | cons y ys =>
      simp only [eqTL, Bool.and_eq_true] at h
      have hu : A.units + max (dpD x) (dpDL xs) < cLine := by simpa only [dpDL] using hu
      obtain ⟨v, vr, rfl, dv, dvr⟩ := dx.cons_inv
      obtain ⟨u, ur, rfl, du, dur⟩ := dy.cons_inv
      cases r with
      | cons ra rb =>
        cases r' with
        | cons ra' rb' =>
          cases j with
          | zero => exact eqT_run I hs x y A v u _ _ h.1 (by omega) dv du ra ra'
          | succ j => exact eqTL_run I hs xs ys A vr ur _ _ h.2 (by omega) dvr dur rb rb' j (Nat.lt_of_succ_lt_succ h1) (Nat.lt_of_succ_lt_succ h2)
end
end
section
variable {X : Cx} {T : Bool} {τ : TEnv} {M : Mem} {P : PK'} {E : XKx} {e a b c o value : Expr} {es : List Expr} {pos pos' apos tpos : Pos} {R : RK} {rest : List Stmt} {x : Str}
open PySem.SeqAt (EqAt RcAt RcNeAt)
/-- two lists of one shape: !=, == -/
theorem o_neLT {xs ys : List Dat} (h : eqTL xs ys = true) (hd : dpDL xs ≤ 60) (hu : X.A.units + 64 < cLine) (hP : P (.bl false) M) : OP X T (compareOp .NotEq) (.lst xs) (.lst ys) M P := by
  intro G H v u hH dx dy Q hQ pins s σ v' u' _ I r r'
  obtain ⟨a, vs, rfl, ga, da⟩ := dx.lst_inv
  obtain ⟨b, us, rfl, gb, db⟩ := dy.lst_inv
  cases r; cases r'
  obtain ⟨ws, r1, p1, _⟩ := I.list (SqL.of (hH.sub _ _ ga))
  obtain ⟨zs, r2, p2, _⟩ := I.list (SqL.of (hH.sub _ _ gb))
  have hz : ws.toArray.size = zs.toArray.size := by rw [List.size_toArray, List.size_toArray, ← r1.length, ← r2.length, da.length, db.length, eqTL_len h]
  have := RcNeAt.lists (A := X.A) (e := fun _ => true) p1.isList p2.isList hz (by omega) (fun j h1 h2 => by
    have := eqTL_run I hH.sub xs ys X.A.in1 vs us ws zs h (by show X.A.units + 1 + dpDL xs < cLine; omega) da db r1 r2 j (by simpa using h1) (by simpa using h2)
    simpa using this)
  rw [all_true] at this
  exact this _ _ _ _ ⟨.bl false, H, I, rfl, hQ _ _ _ _ _ hP Stp.refl hH den_bl⟩
theorem o_eqLT {xs ys : List Dat} (h : eqTL xs ys = true) (hd : dpDL xs ≤ 60) (hu : X.A.units + 64 < cLine) (hP : P (.bl true) M) : OP X T (compareOp .Eq) (.lst xs) (.lst ys) M P := by
  intro G H v u hH dx dy Q hQ pins s σ v' u' _ I r r'
  obtain ⟨a, vs, rfl, ga, da⟩ := dx.lst_inv
  obtain ⟨b, us, rfl, gb, db⟩ := dy.lst_inv
  cases r; cases r'
  obtain ⟨ws, r1, p1, _⟩ := I.list (SqL.of (hH.sub _ _ ga))
  obtain ⟨zs, r2, p2, _⟩ := I.list (SqL.of (hH.sub _ _ gb))
  have hz : ws.toArray.size = zs.toArray.size := by rw [List.size_toArray, List.size_toArray, ← r1.length, ← r2.length, da.length, db.length, eqTL_len h]
  have := RcAt.lists (A := X.A) (e := fun _ => true) p1.isList p2.isList hz (by omega) (fun j h1 h2 => by
    have := eqTL_run I hH.sub xs ys X.A.in1 vs us ws zs h (by show X.A.units + 1 + dpDL xs < cLine; omega) da db r1 r2 j (by simpa using h1) (by simpa using h2)
    simpa using this)
  rw [all_true] at this
  exact this _ _ _ _ ⟨.bl true, H, I, rfl, hQ _ _ _ _ _ hP Stp.refl hH den_bl⟩
/-- two lists of different lengths -/
theorem o_eqLn {xs ys : List Dat} (h : xs.length ≠ ys.length) (hu : X.A.units + 64 < cLine) (hP : P (.bl false) M) : OP X T (compareOp .Eq) (.lst xs) (.lst ys) M P := by
  intro G H v u hH dx dy Q hQ pins s σ v' u' _ I r r'
  obtain ⟨a, vs, rfl, ga, da⟩ := dx.lst_inv
  obtain ⟨b, us, rfl, gb, db⟩ := dy.lst_inv
  cases r; cases r'
  obtain ⟨ws, r1, p1, _⟩ := I.list (SqL.of (hH.sub _ _ ga))
  obtain ⟨zs, r2, p2, _⟩ := I.list (SqL.of (hH.sub _ _ gb))
  have hz : (ws.toArray.size != zs.toArray.size) = true := by
    rw [List.size_toArray, List.size_toArray, ← r1.length, ← r2.length, da.length, db.length]
    simpa using h
  exact RcAt.lists_lengths (A := X.A) p1.isList p2.isList hz (by omega) _ _ _ _ ⟨.bl false, H, I, rfl, hQ _ _ _ _ _ hP Stp.refl hH den_bl⟩
theorem o_neLn {xs ys : List Dat} (h : xs.length ≠ ys.length) (hu : X.A.units + 64 < cLine) (hP : P (.bl true) M) : OP X T (compareOp .NotEq) (.lst xs) (.lst ys) M P := by
  intro G H v u hH dx dy Q hQ pins s σ v' u' _ I r r'
  obtain ⟨a, vs, rfl, ga, da⟩ := dx.lst_inv
  obtain ⟨b, us, rfl, gb, db⟩ := dy.lst_inv
  cases r; cases r'
  obtain ⟨ws, r1, p1, _⟩ := I.list (SqL.of (hH.sub _ _ ga))
  obtain ⟨zs, r2, p2, _⟩ := I.list (SqL.of (hH.sub _ _ gb))
  have hz : (ws.toArray.size != zs.toArray.size) = true := by
    rw [List.size_toArray, List.size_toArray, ← r1.length, ← r2.length, da.length, db.length]
    simpa using h
  exact RcNeAt.lists_lengths (A := X.A) p1.isList p2.isList hz (by omega) _ _ _ _ ⟨.bl true, H, I, rfl, hQ _ _ _ _ _ hP Stp.refl hH den_bl⟩
/-- {} -/
theorem ex_dict0 (h : ∀ q, P (.at q .dic0) M) : EX X T (.Dict [] [] pos) τ M P E := .mk fun W tk σ G H hE hH Q hP hX =>
  tW_of pe_dnewK fun q hq => by
    obtain ⟨s2, h2⟩ := Stp.new (o := .dK []) hH hq
    exact hP _ _ _ _ _ (h q) s2 h2 (den_at (by simp only [Den]; exact ⟨q, rfl, upd_same⟩))
end
/-! d is told equal to itself: no object of the heap but by its place -/
mutual
def selfE : Dat → Bool
  | .non | .bl _ | .int _ | .str _ | .at _ _ => true
  | .lst xs => selfEL xs
  | .tup xs => selfEL xs
  | _ => false
def selfEL : List Dat → Bool
  | [] => true
  | x :: xs => selfE x && selfEL xs
end
mutual
theorem eqT_self : ∀ d : Dat, selfE d = true → eqT d d = true
  | .non, _ => rfl
  | .bl _, _ => by simp [eqT]
  | .int _, _ => by simp [eqT]
  | .str _, _ => by simp [eqT]
  | .at _ _, _ => by simp [eqT]
  | .lst xs, h => by simp only [eqT]; exact eqTL_self xs (by simpa [selfE] using h)
  | .tup xs, h => by simp only [eqT]; exact eqTL_self xs (by simpa [selfE] using h)
  | .raw _, h => by simp [selfE] at h
  | .dic0, h => by simp [selfE] at h
  | .scr _, h => by simp [selfE] at h
  | .obj _ _ _, h => by simp [selfE] at h
  | .xn _ _ _ _, h => by simp [selfE] at h
theorem eqTL_self : ∀ ds : List Dat, selfEL ds = true → eqTL ds ds = true
  | [], _ => rfl
  | d :: ds, h => by
    simp only [selfEL, Bool.and_eq_true] at h
    simp only [eqTL, Bool.and_eq_true]
    exact ⟨eqT_self d h.1, eqTL_self ds h.2⟩
end
end Kh

set_option Elab.async false
set_option linter.all false
set_option maxRecDepth 100000
set_option maxHeartbeats 1000000
namespace Kh
open PySem PySem.Spec L2
section
variable {X : Cx} {T : Bool} {τ : TEnv} {M : Mem} {P : PK'} {E : XKx} {e a b c o value : Expr} {es : List Expr} {pos pos' p apos tpos : Pos} {R : RK} {rest : List Stmt} {x f n : Str} {C D fa : Addr} {k : Nat} {fd : FuncData} {ps : List Str} {S : Spc}
/-! ### self.f = e -/
def putD (f : Str) (v : Dat) : List (Str × Dat) → List (Str × Dat)
  | [] => [(f, v)]
  | (g, x) :: r => if g = f then (g, v) :: r else (g, x) :: putD f v r
theorem denF_put {K : PySem.W.Frag} {G : Hp} {d : Dat} {v : V} (h : Den K G d v) : ∀ {fs : List (Str × Dat)} {vs : List (Str × V)}, DenF K G fs vs → DenF K G (putD f d fs) (putF f v vs)
  | [], [], _ => ⟨rfl, .cons h .nil⟩
  | [], _ :: _, q => by have := q.1; simp at this
  | _ :: _, [], q => by have := q.1; simp at this
  | (g, x) :: fs, (g', u) :: vs, ⟨q1, q2⟩ => by
    rw [List.map_cons, List.map_cons] at q1
    obtain ⟨e1, e2⟩ := List.cons.inj q1
    have e1 : g' = g := e1
    subst e1
    obtain ⟨u', r, e, hu, t⟩ := (show DenL K G (x :: fs.map (·.2)) (u :: vs.map (·.2)) from q2).cons_inv
    obtain ⟨rfl, rfl⟩ := List.cons.inj e
    by_cases z : g' = f
    · simp only [putD, putF, if_pos z]
      exact ⟨by simp [e2], .cons h t⟩
    · simp only [putD, putF, if_neg z]
      have ih := denF_put h ⟨e2, t⟩
      exact ⟨by simp only [List.map_cons, ih.1], .cons hu ih.2⟩
theorem DenF.length {K : PySem.W.Frag} {G : Hp} {fs : List (Str × Dat)} {vs : List (Str × V)} (h : DenF K G fs vs) : vs.length = fs.length := by
  have := congrArg List.length h.1
  simpa using this
theorem ws_fld (h : EX X false value τ M (fun d M1 => EX X false o τ M1 (fun od M2 => ∃ q C dx fs, od = .raw (.ref q) ∧ (q, MC.ins C dx fs) ∈ M2 ∧ Cls X.K C ∧ NoAttr X.K C f ∧ fs.length < 1000 ∧ WS X T rest τ (putC q (.ins C dx (putD f d fs)) M2) R) (fun x M2 => R (.ex x τ) M2)) (fun x M1 => R (.ex x τ) M1))
    (hs : swapsWith value (some (.Attribute o f pos')) pos.line X.env = pure false := by rfl) : WS X T (.Assign [.Attribute o f pos'] value pos :: rest) τ M R := .mk fun W tk σ G H hE hH D hR => by
  refine ws_step (ps_fld (pe_W (e := o)) (pe_W (e := value)) hs) ?_
  refine h.run W tk σ G H hE hH _ ?_ (ex_out hR hE)
  intro d M1 v G1 H1 ho s1 h1 dv
  refine ho.run W tk σ G1 H1 (hE.up s1.gg) h1 _ ?_ ((ex_out hR hE).step s1)
  rintro od M2 ov G2 H2 ⟨q, C, dx, fs, rfl, hm, hc, hn, hl, hw⟩ s2 h2 dov
  obtain ⟨vs, g1, g2, g3⟩ := h2.mem _ hm
  have hcell : MH X.K G2 (upd H2 q (.ins C dx (putF f v vs))) (q, .ins C dx (putD f d fs)) := by
    have ne : dx ≠ q := fun z => by rw [z, g1] at g2; cases g2
    exact ⟨_, upd_same, by rw [upd_ne ne]; exact g2, denF_put (dv.up s2.gg) g3⟩
  obtain ⟨s3, h3⟩ := put_ok (c' := .ins C dx (putD f d fs)) (H2 := upd H2 q (.ins C dx (putF f v vs))) h2 hm rfl (fun b hb => upd_ne hb) hcell
  exact ⟨q, C, dx, vs, dov.raw_inv, g1, hc, hn, by rw [g3.length]; exact hl, hw.run W tk σ G2 _ ((hE.up s1.gg).up s2.gg) h3 D (hR.step ((s1.trans s2).trans s3))⟩
/-! ### C(), C without __init__ -/
structure Mk0 (K : PySem.W.Frag) (C : Addr) : Prop where
  makes : PySem.W.makesIn K C = true
  init : PySem.W.findIn K (.ref C) "__init__" = some (some (.builtin "object.__init__"))
  kp : PySem.W.keepIn K (.ref C) = true
  top : PySem.W.mroIn K C (.type "object") = some true
theorem ex_new0 (Mk' : Mk0 X.K C) (hm : X.mg x = some (.ref C)) (h : ∀ q dx, q ∉ adr M → dx ∉ adr M → dx ≠ q → MadeP P q ((q, .ins C dx []) :: M)) (hg : Gl X x := by rfl) (hdb : (x == ("__debug__" : Str)) = false := by decide) :
    EX X T (.Call (.Name x p) [] [] pos) τ M P E := .mk fun W tk σ G H hE hH Q hP hX pins s k0 I => by
  refine wpAny_Call_Name_kw (ld_glob I hg hm ?_ hdb)
  refine PySem.W.callWith_K0 I.kIn Mk'.kp ?_
  have hx : H (s.heap.objs.size + 1) = none := I.hok.fresh (Nat.le_succ _)
  have hdx : H s.heap.objs.size = none := I.hok.fresh (Nat.le_refl _)
  have ne : s.heap.objs.size ≠ s.heap.objs.size + 1 := Nat.ne_of_lt (Nat.lt_succ_self _)
  have n1 : s.heap.objs.size + 1 ∉ adr M := fun z => hH.there _ z hx
  have n2 : s.heap.objs.size ∉ adr M := fun z => hH.there _ z hdx
  obtain ⟨h1, s1⟩ := hst_new (C := C) hH hx hdx ne
  have q := madeP_ce hP (h _ _ n1 n2 ne) s1 h1
  have I2 := Inv.made (C := C) I
  refine wpAny_call (make_map0 I.kIn Mk'.makes Mk'.init (fun self => PySem.W.Looks.of_pure (PySem.W.oi_bind self)) ?_)
  have hget : ((s.heap.push PySem.W.emptyDict).push (PySem.W.instObj C s.heap.objs.size)).get? (s.heap.objs.size + 1) = some (PySem.W.instObj C s.heap.objs.size) := by
    have := Heap.get?_push_size (s.heap.push PySem.W.emptyDict) (o := PySem.W.instObj C s.heap.objs.size) rfl
    rwa [Heap.size_push] at this
  have t1 : PySem.W.Looks (model X.prog X.w) ((s.heap.push PySem.W.emptyDict).push (PySem.W.instObj C s.heap.objs.size)) (typeOf (.ref (s.heap.objs.size + 1))) (.ref C) := (PySem.W.Looks.ld hget).andThen .now
  have t2 : PySem.W.Looks (model X.prog X.w) ((s.heap.push PySem.W.emptyDict).push (PySem.W.instObj C s.heap.objs.size)) (isInstance (.ref (s.heap.objs.size + 1)) (.type "object")) true := t1.andThen (PySem.W.looks_mroIn I2.kIn Mk'.top)
  refine codeAny_call_builtin PySem.W.oi_plain PySem.W.entry_oi (@PySem.W.check_slot (model X.prog X.w) _ _ _ "object.__init__" "object" "__init__" (.ref (s.heap.objs.size + 1)) [] [] _ PySem.W.oi_kind PySem.W.oi_split t2 (PySem.W.oi_args (.ref (s.heap.objs.size + 1))) ?_)
  rw [PySem.W.oi_run]
  exact wpAny_pure (And.intro rfl ⟨V.ref (s.heap.objs.size + 1), _, I2, rfl, q⟩)
/-! ### own == -/
end
/-! ### defs with defaults -/
structure FunV (K : PySem.W.Frag) (x qual : Str) (st : Stmt) (f : Addr) (fd : FuncData) : Prop where
  ex : ∃ (oc : Value) (od : Option Addr) (dV kV doc pm : Value) (an : Option Addr) (cdv ct : Value) (osl : Array (Option Value)),
    fd = PySem.W.fnOf x qual (defArgs st) (defBody st) (defScope st) dV kV doc pm an cdv ct ∧ K.lookup f = some ⟨oc, od, .func fd, osl⟩ ∧ PySem.W.codeIn K cdv qual = true
  kp : PySem.W.keepIn K (.ref f) = true
theorem fn_dV {P : Program} {w : World} {K : PySem.W.Frag} {mg : Str → Option Value} {base : Heap} {x qual : Str} {st : Stmt} {f : Addr} {fd : FuncData} {N ps : List Str} {k : Nat} {S : Spc} (T : Bool) (F : FunV K x qual st f fd) (Sc : FnScope N ps (defScope st)) (hT : T = true → ∃ x ∈ ps, (defScope st).names.lookup x = some .local) (len : ∀ ds M P E, S ds M P E → ds.length = ps.length)
    (body : ∀ (cdv : Value) (A : Around) (outer : List Env) (s : Shared) (H : Hp) (E : XK), Room k (A.deeper (PyProof.Rows.envOfC qual (defScope st) s.heap.objs.size f cdv)) → ∀ ds M Pd PE, S ds M Pd PE →
      WS (cxOf (L2.CX P w) P w K mg base N qual (defScope st) f cdv A outer s H E) T (defBody st) (startT N ds) M (retR Pd PE)) : FnD P w K mg base (k + 1) f fd ps S := by
  obtain ⟨oc, od, dV, kV, doc, pm, an, cdv, ct, osl, rfl, lk, hcd⟩ := F.ex
  refine fn_w (T := T) lk hcd Sc hT (fun vs H Q E h => ?_) (fun A outer s H vs Q E hr h => ?_)
  · obtain ⟨G, ds, M, Pd, PE, dv, _, hs, _⟩ := h
    rw [dv.length]; exact len _ _ _ _ hs
  · obtain ⟨G, ds, M, Pd, PE, dv, hH, hs, hP, hX⟩ := h
    exact (body cdv A outer s H E hr ds M Pd PE hs).run _ (takes_of rfl rfl rfl rfl) _ G H (denE_start dv) hH _ (cs_ret hP fun x M2 G2 H2 d p s h dx σ => hX x M2 G2 H2 d p s h dx)
/-! ### isinstance between classes -/
section
variable {K : PySem.W.Frag} {C D : Addr} {b : Bool}
theorem kit_ty {T : String} (h : PySem.W.subIn K (.ref C) (.type T) = some b) (hm : PySem.W.kitMeta T = true := by rfl) : PySem.W.kitOne K (.ref C) (.type T) = some b := by
  show (if (Value.ref C == Value.type T) = true then some true else if PySem.W.kitMeta T = true then PySem.W.subIn K (.ref C) (.type T) else none) = some b
  rw [if_neg (by simp), if_pos hm]
  exact h
theorem kit_self {t : Value} : PySem.W.kitOne K t t = some true := by
  unfold PySem.W.kitOne
  rw [if_pos (by simp)]
theorem kit_rr (h2 : PySem.W.isClsIn K D = true) (h3 : PySem.W.typeIn K (.ref D) = some (.type "type")) (h : PySem.W.subIn K (.ref C) (.ref D) = some b) (hs : C = D → b = true) : PySem.W.kitOne K (.ref C) (.ref D) = some b := by
  by_cases e : C = D
  · subst e; rw [hs rfl]; exact kit_self
  · have e2 : ((PySem.W.clsIn K D).isSome && PySem.W.typeIn K (.ref D) == some (.type "type")) = true := by
      have h2' : (PySem.W.clsIn K D).isSome = true := h2
      rw [h2', h3] <;> rfl
    show (if (Value.ref C == Value.ref D) = true then some true else if ((PySem.W.clsIn K D).isSome && PySem.W.typeIn K (.ref D) == some (.type "type")) = true then PySem.W.subIn K (.ref C) (.ref D) else none) = some b
    rw [if_neg (by simpa using e), if_pos e2]
    exact h
theorem kit_rr2 (h2 : PySem.W.isClsIn K D = true) (h3 : PySem.W.typeIn K (.ref D) = some (.type "type")) (hself : PySem.W.mroIn K C (.ref C) = some true) (h : PySem.W.subIn K (.ref C) (.ref D) = some b) : PySem.W.kitOne K (.ref C) (.ref D) = some b := kit_rr h2 h3 h fun e => by
  subst e
  have z : PySem.W.subIn K (.ref C) (.ref C) = some true := hself
  rw [z] at h
  exact (Option.some.inj h).symm
end
section
variable {X : Cx} {T : Bool} {τ : TEnv} {M : Mem} {P : PK'} {E : XKx} {e : Expr}
/-- an object of the heap, told with its place -/
def isR : Dat → Bool
  | .dic0 | .lst _ | .tup _ | .obj _ _ _ => true
  | _ => false
theorem den_isR {K : PySem.W.Frag} {G : Hp} {d : Dat} {v : V} (h : isR d = true) (dv : Den K G d v) : ∃ a, v = .ref a := by
  cases d with
  | dic0 => obtain ⟨a, rfl, _⟩ := dv.dic0_inv; exact ⟨a, rfl⟩
  | lst xs => obtain ⟨a, _, rfl, _⟩ := dv.lst_inv; exact ⟨a, rfl⟩
  | tup xs => obtain ⟨a, _, rfl, _⟩ := dv.tup_inv; exact ⟨a, rfl⟩
  | obj C ns xs => obtain ⟨a, _, _, rfl, _⟩ := dv.obj_inv; exact ⟨a, rfl⟩
  | _ => cases h
theorem ex_tag (h : EX X T e τ M (fun d M1 => isR d = true ∧ ∀ a, P (.at a d) M1) E) : EX X T e τ M P E := .mk fun W tk σ G H hE hH Q hP hX =>
  h.run W tk σ G H hE hH Q (fun d M2 v G2 H2 ⟨hr, hp⟩ s h2 dv => by
    obtain ⟨a, rfl⟩ := den_isR hr dv
    exact hP _ _ _ _ _ (hp a) s h2 (den_at dv)) hX
end
theorem atI_nat {α : Type} {xs : List α} {k : Nat} {x : α} (h : xs[k]? = some x) : atI xs (k : Int) = some x := by
  have hk : k < xs.length := (List.getElem?_eq_some_iff.mp h).1
  have e : ixN xs.length (k : Int) = some k := by
    unfold ixN
    simp [hk]
  unfold atI
  rw [e]; exact h
end Kh

set_option Elab.async false
set_option linter.all false
set_option maxRecDepth 100000
set_option maxHeartbeats 1000000
namespace Kh
open PySem PySem.Spec L2

/-! ### what a def computes, as a plain function: a value, an error, or out of what is told -/
inductive EK where
  | file | number | script | list | write | history | content | text | busy | closed
  deriving DecidableEq
/-- which own class -/
inductive OK where
  | file | full | keep | lean | dig | script | history | store | copier
  deriving DecidableEq
/-- a value of any kind; tag: the very object at an address -/
inductive Any where
  | non | bl (b : Bool) | int (i : Int) | str (s : Str) | lst (xs : List Any) | tup (xs : List Any) | dic | obj (k : OK) (fs : List Any) | tag (q : Addr) (x : Any) | cel (q : Addr)
mutual
def anyD (cl : OK → Addr × List Str) : Any → Dat
  | .non => .non
  | .bl b => .bl b
  | .int i => .int i
  | .str s => .str s
  | .lst xs => .lst (anyDL cl xs)
  | .tup xs => .tup (anyDL cl xs)
  | .dic => .dic0
  | .obj k fs => .obj (cl k).1 (cl k).2 (anyDL cl fs)
  | .tag q x => .at q (anyD cl x)
  | .cel q => .raw (.ref q)
def anyDL (cl : OK → Addr × List Str) : List Any → List Dat
  | [] => []
  | x :: xs => anyD cl x :: anyDL cl xs
end
theorem anyDL_map {cl : OK → Addr × List Str} : ∀ {xs : List Any}, anyDL cl xs = xs.map (anyD cl)
  | [] => by simp [anyDL]
  | x :: xs => by simp [anyDL, anyDL_map (xs := xs)]
structure Er where
  k : EK
  v : Any
inductive Res (α : Type) where
  | ok (a : α) | err (x : Er) | bad
  /-- whatever address is given out -/
  | all (f : Addr → Res α)
/-- how a turn of a loop ends -/
inductive Ctl (σ ρ : Type) where
  | nx (s : σ) | bk (s : σ) | rt (r : ρ)
namespace Res
def bind {α β : Type} : Res α → (α → Res β) → Res β
  | .ok a, k => k a
  | .err x, _ => .err x
  | .bad, _ => .bad
  | .all f, k => .all fun q => (f q).bind k
def Out {α : Type} : Res α → (α → Prop) → (Er → Prop) → Prop
  | .ok a, P, _ => P a
  | .err x, _, E => E x
  | .bad, _, _ => False
  | .all f, P, E => ∀ q, (f q).Out P E
/-- where nothing may be raised -/
def ne {α : Type} : Res α → Res α
  | .ok a => .ok a
  | .all f => .all fun q => (f q).ne
  | _ => .bad
end Res
section
variable {α β σ ρ : Type}
@[simp] theorem bind_ok {a : α} {k : α → Res β} : (Res.ok a).bind k = k a := rfl
@[simp] theorem bind_err {x : Er} {k : α → Res β} : (Res.err x).bind k = .err x := rfl
@[simp] theorem bind_bad {k : α → Res β} : (Res.bad).bind k = .bad := rfl
@[simp] theorem ne_ok {a : α} : (Res.ok a).ne = .ok a := rfl
@[simp] theorem bind_all {f : Addr → Res α} {k : α → Res β} : (Res.all f).bind k = .all fun q => (f q).bind k := rfl
theorem bind_bind {γ : Type} {k : α → Res β} {l : β → Res γ} : ∀ {m : Res α}, (m.bind k).bind l = m.bind fun a => (k a).bind l
  | .ok _ => rfl
  | .err _ => rfl
  | .bad => rfl
  | .all f => by
    show Res.all (fun q => ((f q).bind k).bind l) = Res.all fun q => (f q).bind fun a => (k a).bind l
    congr 1; funext q; exact bind_bind
theorem ob {k : α → Res β} {P : β → Prop} {E : Er → Prop} : ∀ {m : Res α}, (m.bind k).Out P E → m.Out (fun a => (k a).Out P E) E
  | .ok _, h => h
  | .err _, h => h
  | .bad, h => h
  | .all f, h => fun q => ob (m := f q) (h q)
theorem out_mono {P P' : α → Prop} {E E' : Er → Prop} : ∀ {m : Res α}, m.Out P E → (∀ a, P a → P' a) → (∀ x, E x → E' x) → m.Out P' E'
  | .ok _, h, hp, _ => hp _ h
  | .err _, h, _, he => he _ h
  | .bad, h, _, _ => h
  | .all f, h, hp, he => fun q => out_mono (m := f q) (h q) hp he
theorem ne_out {P : α → Prop} {E E' : Er → Prop} : ∀ {m : Res α}, m.ne.Out P E → m.Out P E'
  | .ok _, h => h
  | .err _, h => h.elim
  | .bad, h => h
  | .all f, h => fun q => ne_out (m := f q) (h q)
theorem cif {c : Bool} {A B : Res α} {P : α → Prop} {E : Er → Prop} (h : (cond c A B).Out P E) {X Y : Prop} (a : A.Out P E → X) (b : B.Out P E → Y) : (c = true → X) ∧ (c = false → Y) := by
  cases c with
  | true => exact ⟨fun _ => a h, fun z => nomatch z⟩
  | false => exact ⟨(fun z => nomatch z), fun _ => b h⟩
/-- a condition that must hold -/
@[irreducible] def guard (c : Prop) [Decidable c] (a : α) : Res α := if c then .ok a else .bad
theorem gd {c : Prop} [Decidable c] {a : α} {P : α → Prop} {E : Er → Prop} (h : (guard c a).Out P E) : c ∧ P a := by
  unfold guard at h
  split at h
  · exact ⟨‹_›, h⟩
  · exact h.elim
theorem guard_ok {c : Prop} [Decidable c] {a : α} (h : c) : guard c a = .ok a := by unfold guard; exact if_pos h
/-! loops -/
def Ctl.go (k : σ → Res (Ctl σ ρ)) : Ctl σ ρ → Res (Ctl σ ρ)
  | .nx s => k s
  | .bk s => .ok (.nx s)
  | .rt r => .ok (.rt r)
def Ctl.fin (k : σ → Res β) (r : ρ → Res β) : Ctl σ ρ → Res β
  | .nx s => k s
  | .bk s => k s
  | .rt x => r x
def forR (f : σ → α → Res (Ctl σ ρ)) : List α → σ → Res (Ctl σ ρ)
  | [], s => .ok (.nx s)
  | x :: xs, s => (f s x).bind (Ctl.go (forR f xs))
def foldR (f : σ → α → Res σ) : List α → σ → Res σ
  | [], s => .ok s
  | x :: xs, s => (f s x).bind (foldR f xs)
@[simp] theorem foldR_nil {f : σ → α → Res σ} {s : σ} : foldR f [] s = .ok s := rfl
@[simp] theorem foldR_cons {f : σ → α → Res σ} {s : σ} {x : α} {xs : List α} : foldR f (x :: xs) s = (f s x).bind (foldR f xs) := rfl
@[simp] theorem forR_nil {f : σ → α → Res (Ctl σ ρ)} {s : σ} : forR f [] s = .ok (.nx s) := rfl
@[simp] theorem forR_cons {f : σ → α → Res (Ctl σ ρ)} {s : σ} {x : α} {xs : List α} : forR f (x :: xs) s = (f s x).bind (Ctl.go (forR f xs)) := rfl
@[simp] theorem go_nx {k : σ → Res (Ctl σ ρ)} {s : σ} : Ctl.go k (.nx s) = k s := rfl
@[simp] theorem go_bk {k : σ → Res (Ctl σ ρ)} {s : σ} : Ctl.go k (.bk s) = .ok (.nx s) := rfl
@[simp] theorem go_rt {k : σ → Res (Ctl σ ρ)} {r : ρ} : Ctl.go k (.rt r) = .ok (.rt r) := rfl
@[simp] theorem fin_nx {k : σ → Res β} {r : ρ → Res β} {s : σ} : Ctl.fin k r (.nx s) = k s := rfl
@[simp] theorem fin_bk {k : σ → Res β} {r : ρ → Res β} {s : σ} : Ctl.fin k r (.bk s) = k s := rfl
@[simp] theorem fin_rt {k : σ → Res β} {r : ρ → Res β} {x : ρ} : Ctl.fin k r (.rt x) = r x := rfl
def compL (f : α → Res (Option β)) : List α → Res (List β)
  | [] => .ok []
  | x :: xs => (f x).bind fun o => (compL f xs).bind fun r => .ok (o.toList ++ r)
def compR (f : α → Res (Option β)) (xs : List α) : Res (List β) := if xs.length ≤ sizeLine then (compL f xs).ne else .bad
/-- with a state -/
def compSL (f : σ → α → Res (Option β × σ)) : List α → σ → Res (List β × σ)
  | [], s => .ok ([], s)
  | x :: xs, s => (f s x).bind fun o => (compSL f xs o.2).bind fun r => .ok (o.1.toList ++ r.1, r.2)
def compS (f : σ → α → Res (Option β × σ)) (xs : List α) (s : σ) : Res (List β × σ) := if xs.length ≤ sizeLine then (compSL f xs s).ne else .bad
def andR (a b : Res Bool) : Res Bool := a.bind fun t => cond t b (.ok false)
def orR (a b : Res Bool) : Res Bool := a.bind fun t => cond t (.ok true) b
def notR (a : Res Bool) : Res Bool := a.bind fun t => .ok (!t)
@[simp] theorem andR_ok {a : Bool} {b : Res Bool} : andR (.ok a) b = cond a b (.ok false) := rfl
@[simp] theorem orR_ok {a : Bool} {b : Res Bool} : orR (.ok a) b = cond a (.ok true) b := rfl
@[simp] theorem notR_ok {a : Bool} : notR (.ok a) = .ok (!a) := rfl
@[simp] theorem cond_ok {c : Bool} {a b : α} : (cond c (Res.ok a) (.ok b)) = .ok (cond c a b) := by cases c <;> rfl
end

/-! ### values of types -/
abbrev lstD {α : Type} (e : α → Dat) (xs : List α) : Dat := .lst (xs.map e)
abbrev vtpD {α : Type} (e : α → Dat) (xs : List α) : Dat := .tup (xs.map e)
abbrev pairD {α β : Type} (e : α → Dat) (f : β → Dat) (p : α × β) : Dat := .tup [e p.1, f p.2]
abbrev tripD {α β γ : Type} (e : α → Dat) (f : β → Dat) (g : γ → Dat) (p : α × β × γ) : Dat := .tup [e p.1, f p.2.1, g p.2.2]
abbrev optD {α : Type} (e : α → Dat) : Option α → Dat
  | none => .non
  | some x => e x
/-- a sign as a text -/
abbrev chS (c : Nat) : Str := ⟨#[c]⟩
abbrev chD (c : Nat) : Dat := .str (chS c)
abbrev signsL (z : Str) : List Nat := z.cps.toList
def rangeL (lo : Int) (n : Nat) : List Int := (List.range n).map fun (i : Nat) => lo + (i : Int)
def enumL {α : Type} (xs : List α) : List (Int × α) := xs.zipIdx.map fun q => ((q.2 : Int), q.1)
theorem rngD_map {lo : Int} {n : Nat} : rngD lo n = (rangeL lo n).map Dat.int := by simp [rngD, rangeL]
theorem enuD_map {α : Type} {e : α → Dat} {xs : List α} : enuD (xs.map e) = (enumL xs).map (pairD Dat.int e) := by
  simp [enuD, enumL, List.zipIdx_map, Function.comp_def]
/-! ### operations that want something -/
def small62 (j : Int) : Prop := -(2 ^ 62) ≤ j ∧ j < 2 ^ 62
instance {j : Int} : Decidable (small62 j) := inferInstanceAs (Decidable (_ ∧ _))
def pdiv (i j : Int) : Res Int := guard (0 < j ∧ j.natAbs.log2 < 9000) (i / j)
def pmod (i j : Int) : Res Int := guard (0 < j) (i % j)
def pmul (i j : Int) : Res Int := guard (i.natAbs.log2 + j.natAbs.log2 < 1000000) (i * j)
def pcat (a b : Str) : Res Str := guard (a.length + b.length ≤ sizeLine) (a ++ b)
def pcatL {α : Type} (a b : List α) : Res (List α) := guard (a.length + b.length ≤ sizeLine) (a ++ b)
def prepS (z : Str) (n : Int) : Res Str := guard ((-(2 ^ 63) ≤ n ∧ n < 2 ^ 63) ∧ z.length * n.toNat ≤ sizeLine) (repS z n)
def pix {α : Type} (xs : List α) (i : Int) : Res α := match atI xs i with | some x => .ok x | none => .bad
def pixS (z : Str) (i : Int) : Res Nat := if z.length ≤ sizeLine then pix (signsL z) i else .bad
def plenS (z : Str) : Res Int := guard (z.length ≤ sizeLine) (z.length : Int)
def papp {α : Type} (xs : List α) (x : α) : Res (List α) := guard (xs.length < sizeLine) (xs ++ [x])
def pset {α : Type} (xs : List α) (i : Int) (x : α) : Res (List α) := match ixN xs.length i with | some j => .ok (xs.set j x) | none => .bad

section
variable {X : Cx} {T : Bool} {τ : TEnv} {M A B : Mem} {P : PK'} {E : XKx} {e a b c o : Expr} {es : List Expr} {pos p apos tpos : Pos} {α β σ ρ : Type} {E1 : Er → Prop} {q : Addr}
theorem r_div {i j : Int} {Q : Int → Prop} (h : (pdiv i j).Out Q E1) (hk : ∀ z, Q z → P (.int z) M) : OP X T (binaryOp .FloorDiv) (.int i) (.int j) M P := o_div (gd h).1 (hk _ (gd h).2)
theorem r_mod {i j : Int} {Q : Int → Prop} (h : (pmod i j).Out Q E1) (hk : ∀ z, Q z → P (.int z) M) : OP X T (binaryOp .Mod) (.int i) (.int j) M P := o_mod (gd h).1 (hk _ (gd h).2)
theorem r_mul {i j : Int} {Q : Int → Prop} (h : (pmul i j).Out Q E1) (hk : ∀ z, Q z → P (.int z) M) : OP X T (binaryOp .Mult) (.int i) (.int j) M P := o_mul (gd h).1 (hk _ (gd h).2)
theorem r_cat {i j : Str} {Q : Str → Prop} (h : (pcat i j).Out Q E1) (hk : ∀ z, Q z → P (.str z) M) : OP X T (binaryOp .Add) (.str i) (.str j) M P := o_cat (gd h).1 (hk _ (gd h).2)
theorem r_catL (f : α → Dat) {xs ys : List α} {Q : List α → Prop} (h : (pcatL xs ys).Out Q E1) (hk : ∀ z, Q z → P (lstD f z) M) : OP X T (binaryOp .Add) (lstD f xs) (lstD f ys) M P :=
  o_catL (by rw [List.length_map, List.length_map]; exact (gd h).1) (by rw [← List.map_append]; exact hk _ (gd h).2)
theorem r_repS {z : Str} {n : Int} {Q : Str → Prop} (h : (prepS z n).Out Q E1) (hk : ∀ z, Q z → P (.str z) M) : OP X T (binaryOp .Mult) (.str z) (.int n) M P := o_repS (gd h).1.1 (gd h).1.2 (hk _ (gd h).2)
theorem pix_out {xs : List α} {i : Int} {Q : α → Prop} (h : (pix xs i).Out Q E1) : ∃ x, atI xs i = some x ∧ Q x := by
  unfold pix at h
  cases e : atI xs i with
  | some x => rw [e] at h; exact ⟨x, rfl, h⟩
  | none => rw [e] at h; exact h.elim
theorem atI_map {f : α → β} {xs : List α} {i : Int} {x : α} (h : atI xs i = some x) : atI (xs.map f) i = some (f x) := by
  unfold atI at h ⊢
  rw [List.length_map]
  cases e : ixN xs.length i with
  | none => rw [e] at h; cases h
  | some j => rw [e] at h; simp only [Option.bind_some] at h ⊢; rw [List.getElem?_map, h]; rfl
theorem r_ix {K : PySem.W.Frag} (f : α → Dat) {xs : List α} {i : Int} {Q : α → Prop} (h : (pix xs i).Out Q E1) (hk : ∀ z, Q z → P (f z) M) : IQ K (lstD f xs) (.int i) M P :=
  let ⟨x, h1, h2⟩ := pix_out h; i_lst (atI_map h1) (hk x h2)
theorem r_ixScr {K : PySem.W.Frag} {xs : List Int} {i : Int} {Q : Int → Prop} (h : (pix xs i).Out Q E1) (hk : ∀ z, Q z → P (.int z) M) : IQ K (.scr xs) (.int i) M P :=
  let ⟨x, h1, h2⟩ := pix_out h; i_scr h1 (hk x h2)
/-- in a cell behind the cells A -/
theorem r_ixC {K : PySem.W.Frag} (A : Mem) (f : α → Dat) {xs : List α} {i : Int} {Q : α → Prop} (h : (pix xs i).Out Q E1) (hk : ∀ z, Q z → P (f z) (A ++ (q, .lst (xs.map f)) :: B)) : IQ K (.raw (.ref q)) (.int i) (A ++ (q, .lst (xs.map f)) :: B) P :=
  let ⟨x, h1, h2⟩ := pix_out h; i_cell (List.mem_append_right _ List.mem_cons_self) (atI_map h1) (hk x h2)
theorem r_ixS {K : PySem.W.Frag} {z : Str} {i : Int} {Q : Nat → Prop} (h : (pixS z i).Out Q E1) (hk : ∀ c, Q c → P (chD c) M) : IQ K (.str z) (.int i) M P := by
  unfold pixS at h
  split at h
  · obtain ⟨x, h1, h2⟩ := pix_out h
    exact i_str ‹_› h1 (hk x h2)
  · exact h.elim
theorem cutD_map {f : α → β} {xs : List α} {lo hi : Option Int} : cutD (xs.map f) lo hi = (cutD xs lo hi).map f := by
  unfold cutD; rw [List.length_map, List.map_take, List.map_drop]
theorem l_lstT (f : α → Dat) {xs : List α} {lo hi : Option Int} (h : P (lstD f (cutD xs lo hi)) M) : SQ X (lstD f xs) lo hi M P := l_lst (by rw [cutD_map]; exact h)
theorem c_lenT (f : α → Dat) {xs : List α} (h : P (.int xs.length) M) : BC X (.builtin "len") [lstD f xs] M P := c_len_lst (by rw [List.length_map]; exact h)
theorem r_lenS {z : Str} {Q : Int → Prop} (h : (plenS z).Out Q E1) (hk : ∀ z, Q z → P (.int z) M) : BC X (.builtin "len") [.str z] M P := c_len_str (gd h).1 (hk _ (gd h).2)
theorem c_minT {i j : Int} (h : P (.int (min i j)) M) (hc : X.calm = true := by rfl) : BC X (.builtin "min") [.int i, .int j] M P := c_min hc (by
  have e : (if j < i then j else i) = min i j := by omega
  rw [e]; exact h)
theorem c_listT (f : α → Dat) {xs : List α} (h : P (lstD f xs) M) : BC X (.type "list") [lstD f xs] M P := c_list_lst h
theorem c_tupT (f : α → Dat) {xs : List α} (h : P (vtpD f xs) M) : BC X (.type "tuple") [lstD f xs] M P := c_tuple_lst h
theorem hst_put {K : PySem.W.Frag} {G H H2 : Hp} {c' : MC} {c : MC} (h : Hst K G (A ++ (q, c) :: B) H) (hc : adr1 (q, c) = adr1 (q, c')) (hk : ∀ b, b ≠ q → H2 b = H b) (hn : MH K G H2 (q, c')) :
    Stp G (A ++ (q, c) :: B) H G (A ++ (q, c') :: B) H2 ∧ Hst K G (A ++ (q, c') :: B) H2 := cell_put h hc (by cases c <;> simp [adr1]) hk hn
theorem b_app (A : Mem) (f : α → Dat) {xs : List α} {x : α} {Q : List α → Prop} (h : (papp xs x).Out Q E1) (hk : ∀ ys, Q ys → P .non (A ++ (q, .lst (ys.map f)) :: B)) : BMr X "list.append" (.raw (.ref q)) [f x] (A ++ (q, .lst (xs.map f)) :: B) P := by
  obtain ⟨hl, hq⟩ := gd h
  refine ⟨rAppend, mt_append, fun G H v vs hH dv dvs Q hP => ?_⟩
  obtain ⟨u, r, rfl, du, t⟩ := dvs.cons_inv
  obtain rfl := t.nil_inv
  obtain ⟨ys, g, dx⟩ := hH.mem _ (List.mem_append_right _ List.mem_cons_self)
  rw [dv.raw_inv]
  obtain ⟨s2, h2⟩ := hst_put (c' := .lst ((xs ++ [x]).map f)) (H2 := upd H q (.lst (ys ++ [u]))) hH rfl (fun b hb => upd_ne hb) ⟨_, upd_same, by rw [List.map_append]; exact dx.snoc du⟩
  exact ⟨q, ys, u, rfl, rfl, g, by rw [dx.length, List.length_map]; exact hl, hP _ _ _ _ _ (hk _ hq) s2 h2 den_non⟩
theorem r_app (A : Mem) (f : α → Dat) {xs : List α} (h : EX X T o τ M (fun d M1 => d = .raw (.ref q) ∧ M1 = A ++ (q, .lst (xs.map f)) :: B ∧ EA X T (e :: es) τ M1 (fun ds M2 => BMr X "list.append" d ds M2 P) E) E)
    (hbase : attributeBase o "append" X.env (eval o X.env) = eval o X.env := by rfl)
    (hfew : ((backTo tpos (starEach (e :: es) X.env)).all (fun x => !x.1) && (backToKw tpos (keywordEach [] X.env)).all (fun x => x.1.isSome) && decide ((e :: es).length + ([] : List Keyword).length + (if ([] : List Keyword).isEmpty then 0 else 1) < 30)) = true := by rfl)
    (hline : (apos.endLine == tpos.line) = true := by rfl) (hs : starEach (e :: es) X.env = (false, eval e X.env) :: starEach es X.env := by rfl) (hplain : (backTo tpos (starEach es X.env)).any (·.1) = false := by rfl) :
    EX X T (.Call (.Attribute o "append" apos) (e :: es) [] tpos) τ M P E := ex_append (h.imp (fun d M1 ⟨e1, e2, e3⟩ => ⟨by rw [e1, e2]; exact .cell (List.mem_append_right _ List.mem_cons_self), e3⟩) fun _ _ x => x) hbase hfew hline hs hplain
/-! calls -/
theorem outU {m : Res α} {f : α → Dat} {ex : Er → Exn} {Q : α → Prop} (h : m.Out Q E1) (hk : ∀ r, Q r → P (f r) M) (hx : ∀ x, E1 x → E (ex x) M) : m.Out (fun r => UpP P (f r) M) (fun x => UpP E (ex x) M) :=
  out_mono h (fun r q => UpP.mk (hk r q)) fun x q => UpP.mk (hx x q)
end

/-! ### a def's ends: what it made itself is left behind -/
def retD (P : PK') (E : XKx) : RK
  | .rt d, M => ∃ A B, M.Perm (A ++ B) ∧ P d A
  | .nx _, M => ∃ A B, M.Perm (A ++ B) ∧ P .non A
  | .ex x _, M => ∃ A B, M.Perm (A ++ B) ∧ E x A
  | _, _ => False
theorem csD {K : PySem.W.Frag} {G H : Hp} {M : Mem} {P : PK'} {E : XKx} {D : Ends} {W : WX} (h : CS' K G M H (retR P E) D W) : CS' K G M H (retD P E) D W := fun o M2 G2 H2 r s h2 => by
  cases o with
  | nx τ => obtain ⟨A, B, pm, r⟩ := r; exact h (.nx τ) A G2 H2 r (s.perm (List.Perm.refl _) pm).drop (h2.perm pm).drop
  | rt d => obtain ⟨A, B, pm, r⟩ := r; exact h (.rt d) A G2 H2 r (s.perm (List.Perm.refl _) pm).drop (h2.perm pm).drop
  | ex x τ => obtain ⟨A, B, pm, r⟩ := r; exact h (.ex x τ) A G2 H2 r (s.perm (List.Perm.refl _) pm).drop (h2.perm pm).drop
  | bk τ => exact r.elim
  | ct τ => exact r.elim
theorem WS.ends {X : Cx} {T : Bool} {τ : TEnv} {M : Mem} {P : PK'} {E : XKx} {ss : List Stmt} (h : WS X T ss τ M (retD P E)) : WS X T ss τ M (retR P E) := .mk fun W tk σ G H hE hH D hR => h.run W tk σ G H hE hH D (csD hR)
/-- dropped at an end: the cells L, made here -/
theorem dN {M : Mem} (L : Mem) {d : Dat} {P : PK'} (h : P d M) : ∃ A B, (L ++ M).Perm (A ++ B) ∧ P d A := ⟨M, L, List.perm_append_comm, h⟩
theorem dX {M : Mem} (L : Mem) {x : Exn} {E : XKx} (h : E x M) : ∃ A B, (L ++ M).Perm (A ++ B) ∧ E x A := ⟨M, L, List.perm_append_comm, h⟩

/-! ### ifs and loops by what they compute -/
section
variable {X : Cx} {T : Bool} {τ : TEnv} {M : Mem} {P : PK'} {E : XKx} {t e iter tg : Expr} {p q body rest : List Stmt} {pos : Pos} {α β σ ρ : Type} {E1 : Er → Prop} {R : RK}
/-- a value by itself, its reading goes on behind it -/
theorem exJ {m : Res α} (f : α → Dat) {Q : α → Prop} (h : m.Out Q E1) (he : m.Out Q E1 → EX X T e τ M (fun d M1 => M1 = M ∧ ∃ v, d = f v ∧ Q v) E) (hk : ∀ v, Q v → P (f v) M) : EX X T e τ M P E :=
  (he h).imp (fun d M1 ⟨e1, v, e2, q⟩ => by rw [e1, e2]; exact hk v q) fun _ _ x => x
theorem etJ {m : Res Bool} {Q : Bool → Prop} {Pb : Bool → Mem → Prop} (h : m.Out Q E1) (he : m.Out Q E1 → ET X T e τ M (fun k M1 => M1 = M ∧ Q k) E) (hk : ∀ v, Q v → Pb v M) : ET X T e τ M Pb E :=
  (he h).imp (fun k M1 ⟨e1, q⟩ => by rw [e1]; exact hk k q) fun _ _ x => x
theorem ws_ifJ {m : Res σ} {Q : σ → Prop} (JJ : (σ → Prop) → TEnv → Mem → Prop) (h : m.Out Q E1)
    (hif : m.Out Q E1 → ET X T t τ M (fun k M1 => (k = true → WS X T p τ M1 (thenR (JJ Q) R)) ∧ (k = false → WS X T q τ M1 (thenR (JJ Q) R))) (fun x M1 => R (.ex x τ) M1))
    (hk : ∀ τ' M', JJ Q τ' M' → WS X T rest τ' M' R) : WS X T (.If t p q pos :: rest) τ M R :=
  ws_if ((hif h).imp (fun k M1 ⟨h1, h2⟩ => ⟨fun e => (h1 e).imp fun o M2 r => by cases o <;> first | exact hk _ _ r | exact r, fun e => (h2 e).imp fun o M2 r => by cases o <;> first | exact hk _ _ r | exact r⟩) fun _ _ x => x)
/-- what a loop over ds wants; what a comprehension over ds wants -/
def ForQ (X : Cx) (T : Bool) (tg : Expr) (body rest : List Stmt) (τ : TEnv) (R : RK) (ds : List Dat) (M1 : Mem) (Ok : Mem → Prop) : Prop :=
  ∃ I : Nat → TEnv → Mem → Prop, I 0 τ M1 ∧ (∀ i τ M, I i τ M → Ok M) ∧
      (∀ i d τ M, ds[i]? = some d → I i τ M → GX X T tg d τ M (fun τ2 M2 => WS X T body τ2 M2 (loopR (I (i + 1)) (fun τ M => WS X T rest τ M R) R)) (fun x M2 => R (.ex x τ) M2)) ∧
      (∀ τ M, I ds.length τ M → WS X T rest τ M R)
def LcQ (X : Cx) (scope : Scope) (vs : List Nat) (tg : Expr) (ifs : List Expr) (elt : Expr) (τ : TEnv) (ds : List Dat) (M1 : Mem) (Ok : Mem → Prop) (P : PK') : Prop :=
  ds.length ≤ sizeLine ∧ ∃ I : Nat → List Dat → Mem → Prop, I 0 [] M1 ∧ (∀ i acc M, I i acc M → Ok M) ∧
      (∀ i d acc M, ds[i]? = some d → I i acc M → ∀ (s : Shared) (H : Hp) (C : Addr) (cl : List (Str × Addr)) (fp : List Addr), GC (Cx.Bk X scope s H C cl fp) vs tg d (wipeT τ vs) M (fun τ2 M2 => ∀ (s : Shared) (H : Hp) (C : Addr) (cl : List (Str × Addr)) (fp : List Addr),
        EFs (Cx.Bk X scope s H C cl fp) ifs τ2 M2 (fun b M3 => (b = true → ∀ (s : Shared) (H : Hp) (C : Addr) (cl : List (Str × Addr)) (fp : List Addr), EX (Cx.Bk X scope s H C cl fp) false elt τ2 M3 (fun y M4 => I (i + 1) (acc ++ [y]) M4) E0') ∧ (b = false → I (i + 1) acc M3)))) ∧
      (∀ acc M, I ds.length acc M → P (.lst acc) M)
theorem ws_forT (hi : EI X tg iter τ M (fun ds M1 Ok => ForQ X T tg body rest τ R ds M1 Ok) (fun x M1 => R (.ex x τ) M1))
    (hp : PassesOwn (model X.prog X.w) X.A X.env X.xe := by first | exact PassesOwn.never | exact passes_of rfl | assumption) (hc : X.calm = true := by rfl) (hs : ∀ x, foldedSetIterable iter X.env x = pure x := by intro _; rfl) : WS X T (.For tg iter body [] pos :: rest) τ M R := ws_for hi hp hc hs
theorem ex_lcT {scope : Scope} {ifs : List Expr} {elt : Expr} (own : List (Str × Nat)) (h : EI X tg iter τ M (fun ds M1 Ok => LcQ X scope (own.map (·.2)) tg ifs elt τ ds M1 Ok P) E)
    (ok : BlkOk X.N X.env.scope scope own := by exact blkOk_by (by first | decide +kernel | kernel_rfl)) (hN : X.N.Nodup := by first | decide +kernel | exact of_decide_eq_true (by kernel_rfl)) (hc : X.calm = true := by rfl) (hs : ∀ x, foldedSetIterable iter X.env x = pure x := by intro _; rfl) :
    EX X T (.ListComp elt [⟨tg, iter, ifs, 0⟩] scope pos) τ M P E := ex_lc own h ok hN hc hs
theorem GX.impP {X : Cx} {T : Bool} {tg : Expr} {d : Dat} {τ : TEnv} {M : Mem} {Pg Pg' : TEnv → Mem → Prop} {Eg : XKx} (hp : ∀ τ M, Pg τ M → Pg' τ M) (hg : GX X T tg d τ M Pg Eg) : GX X T tg d τ M Pg' Eg :=
  .mk fun W tk σ G H v hE hH dv Q hP hX => hg.run W tk σ G H v hE hH dv Q (fun τ2 M2 G2 H2 σ2 r => hP τ2 M2 G2 H2 σ2 (hp _ _ r)) hX
theorem GC.impP {X : Cx} {vs : List Nat} {tg : Expr} {d : Dat} {τ : TEnv} {M : Mem} {Pg Pg' : TEnv → Mem → Prop} (hp : ∀ τ M, Pg τ M → Pg' τ M) (hg : GC X vs tg d τ M Pg) : GC X vs tg d τ M Pg' :=
  fun σ G H v hE hH dv Q hQ => hg σ G H v hE hH dv Q fun τ' M' G' H' σ' r => hQ τ' M' G' H' σ' (hp _ _ r)
theorem foldT {xs : List α} (f : α → Dat) {g : σ → α → Res σ} {s0 : σ} {M1 : Mem} {Ok : Mem → Prop} (J : σ → TEnv → Mem → Prop) {Q : σ → Prop} (h : (foldR g xs s0).Out Q E1) (h0 : J s0 τ M1) (hOk : ∀ s τ M, J s τ M → Ok M)
    (step : ∀ x s τ M (N : σ → Prop), J s τ M → (g s x).Out N E1 → GX X T tg (f x) τ M (fun τ2 M2 => WS X T body τ2 M2 (loopR (fun τ M => ∃ s, J s τ M ∧ N s) (fun τ M => WS X T rest τ M R) R)) (fun x M2 => R (.ex x τ) M2))
    (fin : ∀ s τ M, J s τ M → Q s → WS X T rest τ M R) :
    ForQ X T tg body rest τ R (xs.map f) M1 Ok := by
  refine ⟨fun i τ M => ∃ s, J s τ M ∧ (foldR g (xs.drop i) s).Out Q E1, ⟨s0, h0, h⟩, fun i τ M ⟨s, h1, _⟩ => hOk s τ M h1, ?_, ?_⟩
  · rintro i d τ M hd ⟨s, h1, h2⟩
    rw [List.getElem?_map] at hd
    obtain ⟨x, hx, rfl⟩ := Option.map_eq_some_iff.mp hd
    obtain ⟨hi, rfl⟩ := List.getElem?_eq_some_iff.mp hx
    rw [List.drop_eq_getElem_cons hi] at h2
    exact step _ s τ M _ h1 (ob h2)
  · rintro τ M ⟨s, h1, h2⟩
    rw [List.length_map, List.drop_length] at h2
    exact fin s τ M h1 h2
theorem forT {xs : List α} (f : α → Dat) {g : σ → α → Res (Ctl σ ρ)} {s0 : σ} {M1 : Mem} {Ok : Mem → Prop} (J : σ → TEnv → Mem → Prop) {Q : Ctl σ ρ → Prop} (h : (forR g xs s0).Out Q E1) (h0 : J s0 τ M1) (hOk : ∀ s τ M, J s τ M → Ok M)
    (step : ∀ x s τ M (N : Ctl σ ρ → Prop), J s τ M → (g s x).Out N E1 → (∀ r, N (.rt r) → Q (.rt r)) → GX X T tg (f x) τ M (fun τ2 M2 => WS X T body τ2 M2 (loopR (fun τ M => ∃ s, J s τ M ∧ N (.nx s)) (fun τ M => ∃ s, J s τ M ∧ N (.bk s)) R)) (fun x M2 => R (.ex x τ) M2))
    (fin : ∀ s τ M, J s τ M → Q (.nx s) → WS X T rest τ M R) :
    ForQ X T tg body rest τ R (xs.map f) M1 Ok := by
  refine ⟨fun i τ M => ∃ s, J s τ M ∧ (forR g (xs.drop i) s).Out Q E1, ⟨s0, h0, h⟩, fun i τ M ⟨s, h1, _⟩ => hOk s τ M h1, ?_, ?_⟩
  · rintro i d τ M hd ⟨s, h1, h2⟩
    rw [List.getElem?_map] at hd
    obtain ⟨x, hx, rfl⟩ := Option.map_eq_some_iff.mp hd
    obtain ⟨hi, rfl⟩ := List.getElem?_eq_some_iff.mp hx
    rw [List.drop_eq_getElem_cons hi] at h2
    refine GX.impP (fun τ2 M2 hw => ?_) (step _ s τ M _ h1 (ob h2) fun r z => z)
    refine hw.imp fun o M3 r => ?_
    cases o with
    | nx τ3 => exact r
    | ct τ3 => exact r
    | bk τ3 => obtain ⟨s3, j3, q3⟩ := r; exact fin s3 τ3 M3 j3 q3
    | rt d => exact r
    | ex x τ3 => exact r
  · rintro τ M ⟨s, h1, h2⟩
    rw [List.length_map, List.drop_length] at h2
    exact fin s τ M h1 h2
/-- the tuple that a comprehension wants -/
theorem compT {xs : List α} (f : α → Dat) (f2 : β → Dat) {g : α → Res (Option β)} {M1 : Mem} {Ok : Mem → Prop} {vs : List Nat} {scope : Scope} {ifs : List Expr} {elt : Expr} {Q : List β → Prop} (h : (compR g xs).Out Q E1) (hOk : Ok M1)
    (step : ∀ x (N : Option β → Prop), (g x).Out N (fun _ => False) → ∀ (s : Shared) (H : Hp) (C : Addr) (cl : List (Str × Addr)) (fp : List Addr), GC (Cx.Bk X scope s H C cl fp) vs tg (f x) (wipeT τ vs) M1 (fun τ2 M2 => ∀ (s : Shared) (H : Hp) (C : Addr) (cl : List (Str × Addr)) (fp : List Addr),
        EFs (Cx.Bk X scope s H C cl fp) ifs τ2 M2 (fun b M3 => (b = true → ∀ (s : Shared) (H : Hp) (C : Addr) (cl : List (Str × Addr)) (fp : List Addr), EX (Cx.Bk X scope s H C cl fp) false elt τ2 M3 (fun y M4 => M4 = M1 ∧ ∃ v, y = f2 v ∧ N (some v)) E0') ∧ (b = false → M3 = M1 ∧ N none))))
    (fin : ∀ ys, Q ys → P (lstD f2 ys) M1) :
    LcQ X scope vs tg ifs elt τ (xs.map f) M1 Ok P := by
  unfold compR at h
  split at h
  case isFalse => exact h.elim
  rename_i hl
  have h : (compL g xs).Out Q (fun _ => False) := ne_out h
  refine ⟨by rw [List.length_map]; exact hl, fun i acc M => M = M1 ∧ ∃ ys : List β, acc = ys.map f2 ∧ (compL g (xs.drop i)).Out (fun r => Q (ys ++ r)) (fun _ => False), ⟨rfl, [], rfl, h⟩, fun i acc M ⟨e, _⟩ => by rw [e]; exact hOk, ?_, ?_⟩
  · rintro i d acc M hd ⟨rfl, ys, rfl, h2⟩ s H C cl fp
    rw [List.getElem?_map] at hd
    obtain ⟨x, hx, rfl⟩ := Option.map_eq_some_iff.mp hd
    obtain ⟨hi, rfl⟩ := List.getElem?_eq_some_iff.mp hx
    rw [List.drop_eq_getElem_cons hi] at h2
    refine GC.impP (fun τ2 M2 hw => ?_) (step _ _ (ob h2) s H C cl fp)
    intro s H C cl fp σ G H' hE hH Q' hQ
    refine hw s H C cl fp σ G H' hE hH Q' fun b M3 G3 H3 ⟨p1, p2⟩ s3 h3 => hQ b M3 G3 H3 ⟨fun eb s H C cl fp => ?_, fun eb => ?_⟩ s3 h3
    · refine (p1 eb s H C cl fp).imp (fun y M4 ⟨e4, v, ev, hv⟩ => ?_) fun _ _ x => x
      subst ev
      refine ⟨e4, ys ++ [v], by simp, ?_⟩
      have hv := ob hv
      refine out_mono hv (fun r q => ?_) fun _ z => z
      have : Q (ys ++ ((some v).toList ++ r)) := q
      simpa using this
    · obtain ⟨e3, hv⟩ := p2 eb
      refine ⟨e3, ys, rfl, ?_⟩
      exact out_mono (ob hv) (fun r q => by have : Q (ys ++ ((none : Option β).toList ++ r)) := q; simpa using this) fun _ z => z
  · rintro acc M ⟨rfl, ys, rfl, h2⟩
    rw [List.length_map, List.drop_length] at h2
    have : Q (ys ++ []) := h2
    rw [List.append_nil] at this
    exact fin ys this
end
/-! tests by what they compute -/
section
variable {X : Cx} {T : Bool} {τ : TEnv} {M : Mem} {E : XKx} {a b : Expr} {rest : List Expr} {pos : Pos} {E1 : Er → Prop} {Q : Bool → Prop}
theorem ewA {ma mb : Res Bool} (h : (andR ma mb).Out Q E1) (ha : ∀ Q', ma.Out Q' E1 → ET X T a τ M (fun k M1 => M1 = M ∧ Q' k) E) (hb : mb.Out Q E1 → EW X T (.BoolOp .And (b :: rest) pos) τ M (fun k M1 => M1 = M ∧ Q k) E) :
    EW X T (.BoolOp .And (a :: b :: rest) pos) τ M (fun k M1 => M1 = M ∧ Q k) E :=
  ew_and ((ha _ (ob h)).imp (fun k M1 ⟨e, q⟩ => by
    subst e
    cases k with
    | true => exact ⟨fun _ => hb q, fun z => nomatch z⟩
    | false => exact ⟨(fun z => nomatch z), fun _ => ⟨rfl, q⟩⟩) fun _ _ x => x)
theorem exA {ma mb : Res Bool} (h : (andR ma mb).Out Q E1) (ha : ∀ Q', ma.Out Q' E1 → EX X T a τ M (fun d M1 => M1 = M ∧ ∃ k, d = .bl k ∧ Q' k) E) (hb : mb.Out Q E1 → EX X T (.BoolOp .And (b :: rest) pos) τ M (fun d M1 => M1 = M ∧ ∃ k, d = .bl k ∧ Q k) E) :
    EX X T (.BoolOp .And (a :: b :: rest) pos) τ M (fun d M1 => M1 = M ∧ ∃ k, d = .bl k ∧ Q k) E :=
  ex_and ((ha _ (ob h)).imp (fun d M1 ⟨e, k, ek, q⟩ => by
    subst e
    refine ⟨k, ek, ?_⟩
    cases k with
    | true => exact ⟨fun _ => hb q, fun z => nomatch z⟩
    | false => exact ⟨(fun z => nomatch z), fun _ => ⟨rfl, _, rfl, q⟩⟩) fun _ _ x => x)
end
end Kh

set_option Elab.async false
set_option linter.all false
set_option maxRecDepth 100000
set_option maxHeartbeats 1000000
namespace Kh
open PySem PySem.Spec L2

/-! ### data that is compared by its parts -/
section
variable {α β γ : Type} {e : α → Dat} {f : β → Dat} {g : γ → Dat} [DecidableEq α] [DecidableEq β] [DecidableEq γ]
end
section
variable {X : Cx} {T : Bool} {τ : TEnv} {M A B : Mem} {P : PK'} {E : XKx} {a b c o e : Expr} {es : List Expr} {pos p apos tpos : Pos} {α β : Type} {E1 : Er → Prop} {q : Addr}
theorem o_isNT {α : Type} (e : α → Dat) (hn : ∀ a, (e a).isN = false ∧ ∀ u, e a ≠ .raw u) {x : Option α} (h : P (.bl x.isNone) M) : OP X T (compareOp .Is) (optD e x) .non M P := by
  cases x with
  | none => exact o_isN (fun u => by simp [optD]) h
  | some a => exact o_isN (fun u => (hn a).2 u) (by show P (.bl (e a).isN) M; rw [(hn a).1]; exact h)
theorem cifN {c : Bool} {A B : Res α} {P : α → Prop} {E : Er → Prop} (h : (cond c A B).Out P E) {X Y : Prop} (a : A.Out P E → X) (b : B.Out P E → Y) : ((!c) = true → Y) ∧ ((!c) = false → X) := by
  cases c with
  | true => exact ⟨(fun z => nomatch z), fun _ => a h⟩
  | false => exact ⟨fun _ => b h, fun z => nomatch z⟩
/-! walks -/
variable {iter tg : Expr} {PI' : List Dat → Mem → (Mem → Prop) → Prop}
theorem ei_rng1 (hm : X.mg "range" = none) (h : EX X false a τ M (fun d M1 => ∃ j, d = .int j ∧ small62 j ∧ PI' ((rangeL 0 j.toNat).map Dat.int) M1 anyM) E) (hg : Gl X "range" := by rfl) (hs : starEach [a] X.env = [(false, eval a X.env)] := by rfl) : EI X tg (.Call (.Name "range" p) [a] [] pos) τ M PI' E :=
  ei_range1 hm (h.imp (fun d M1 ⟨j, e, hj, hp⟩ => ⟨j, e, hj, by rw [rngD_map]; exact hp⟩) fun _ _ x => x) hg hs
/-- a range upwards by a step -/
def rng3ok (i j c : Int) : Prop := (small62 i ∧ small62 j) ∧ 0 < c ∧ c < 1073741824
instance {i j c : Int} : Decidable (rng3ok i j c) := inferInstanceAs (Decidable (_ ∧ _))
theorem ei_enumT (f : α → Dat) {elts : List Expr} {kk : Nat} {tpos : Pos} (hm : X.mg "enumerate" = none) (h : EX X false e τ M (fun d M1 => ∃ xs : List α, d = lstD f xs ∧ PI' ((enumL xs).map (pairD Dat.int f)) M1 anyM) E) (hg : Gl X "enumerate" := by rfl) (hs : starEach [e] X.env = [(false, eval e X.env)] := by rfl) :
    EI X (.Tuple elts kk tpos) (.Call (.Name "enumerate" p) [e] [] pos) τ M PI' E :=
  ei_enum hm (h.imp (fun d M1 ⟨xs, e, hp⟩ => ⟨xs.map f, e, by rw [enuD_map]; exact hp⟩) fun _ _ x => x) hg hs
/-! cells -/
/-- what o[i] = d wants -/
def SetQ (K : PySem.W.Frag) (od id d : Dat) (M : Mem) (Pm : Mem → Prop) : Prop := ∃ q ds k j, od = .raw (.ref q) ∧ id = .int k ∧ (q, MC.lst ds) ∈ M ∧ ixN ds.length k = some j ∧ ∀ G H, Hst K G M H → Pm (putC q (.lst (ds.set j d)) M)
theorem r_set (A : Mem) (f : α → Dat) {xs : List α} {x : α} {k : Int} {Q : List α → Prop} {Pm : Mem → Prop} (h : (pset xs k x).Out Q E1) (hk : ∀ z, Q z → Pm (A ++ (q, .lst (z.map f)) :: B)) :
    SetQ X.K (.raw (.ref q)) (.int k) (f x) (A ++ (q, .lst (xs.map f)) :: B) Pm := by
  unfold pset at h
  cases e : ixN xs.length k with
  | none => rw [e] at h; exact h.elim
  | some j =>
    rw [e] at h
    refine ⟨q, xs.map f, k, j, rfl, rfl, List.mem_append_right _ List.mem_cons_self, by rw [List.length_map]; exact e, fun G H hH => ?_⟩
    have nd := hH.nd
    have : putC q (.lst ((xs.map f).set j (f x))) (A ++ (q, .lst (xs.map f)) :: B) = A ++ (q, .lst ((xs.set j x).map f)) :: B := by
      rw [← List.map_set]
      rw [adr_append] at nd
      have hA : ∀ c ∈ A, c.1 ≠ q := fun c hc e => by
        have h1 : q ∈ adr A := List.mem_flatMap.mpr ⟨c, hc, by obtain ⟨p, c⟩ := c; simp only at e; subst e; cases c <;> simp [adr1]⟩
        exact (List.nodup_append.mp nd).2.2 q h1 q (by simp [adr, adr1]) rfl
      clear hH nd h hk
      induction A with
      | nil => simp [putC]
      | cons c A ih =>
        obtain ⟨p, c⟩ := c
        have : p ≠ q := hA _ List.mem_cons_self
        simp only [List.cons_append, putC, if_neg this]
        rw [ih fun c hc => hA c (List.mem_cons_of_mem _ hc)]
    rw [this]
    exact hk _ h
/-- o[i] = v, the cells as they are told by r_set -/
theorem gx_subT {i : Expr} {d : Dat} {Pt : TEnv → Mem → Prop} (h : EX X false o τ M (fun od M1 => EX X false i τ M1 (fun id M2 => SetQ X.K od id d M2 (fun M3 => Pt τ M3)) E) E)
    (ha : ∀ v, assign (.Subscript o i pos) X.env v = (do
      let ov ← holding [v] (eval o X.env)
      let iv ← holding [v, ov] (eval i X.env)
      standAt pos
      holding [v, ov, iv] (setItem ov iv v)
      release [v, ov, iv] []) := by intro _; rfl) : GX X T (.Subscript o i pos) d τ M Pt E := .mk fun W tk σ G H v hE hH dv Q hP hX => by
  refine tWG_of (pg_sub (pe_W (e := o)) (pe_W (e := i)) set_list ha) ?_
  refine h.run W tk σ G H hE hH _ ?_ hX
  intro od M1 ov G1 H1 hi s1 h1 dov
  refine hi.run W tk σ G1 H1 (hE.up s1.gg) h1 _ ?_ (hX.step s1)
  rintro id M2 iv G2 H2 ⟨q, ds, k, j, rfl, rfl, hm, hj, hp⟩ s2 h2 div
  obtain ⟨xs, g, dx⟩ := h2.mem _ hm
  obtain ⟨s3, h3⟩ := put_ok (c' := .lst (ds.set j d)) (H2 := upd H2 q (.lst (xs.set j v))) h2 hm rfl (fun b hb => upd_ne hb) ⟨_, upd_same, dx.set (dv.up (s1.trans s2).gg) j⟩
  exact ⟨q, xs, k, j, (dov.up s2.gg).raw_inv, div.int_inv, g, by rw [dx.length]; exact hj, hP _ _ _ _ _ (hp _ _ h2) ((s1.trans s2).trans s3) h3 ((hE.up (s1.trans s2).gg).up s3.gg)⟩
/-! calls with a cell, of defs that give a new list -/
variable {k : Nat} {f : Addr} {fd : FuncData} {ps : List Str} {S : Spc} {x qual : Str} {st : Stmt}
theorem ex_callA (F : FnD X.prog X.w X.K X.mg X.base k f fd ps S) (hr : Room k X.A) (hm : X.mg x = some (.ref f)) (FF : Fun X.K x qual st f fd) (hb : Binds X.K fd ps [])
    (h : EA X T (e :: es) τ M (fun ds M1 => AP S ds M1 P E) E) (hg : Gl X x := by rfl) (hdb : (x == ("__debug__" : Str)) = false := by decide) (he : starEach (e :: es) X.env = (false, eval e X.env) :: starEach es X.env := by rfl) (hpl : (backTo pos (starEach es X.env)).any (·.1) = false := by rfl) :
    EX X T (.Call (.Name x p) (e :: es) [] pos) τ M P E := ex_call (df := []) (dvs := []) F hr hm FF.kp hb .nil (fun _ => .nil) (.mk fun W tk σ G H hE hH Q hP hX => h.run W tk σ G H hE hH Q (fun ds M2 vs G2 H2 hs => hP ds M2 vs G2 H2 (by show AP S (ds ++ []) M2 P E; rw [List.append_nil]; exact hs)) hX) hg hdb he hpl
/-- the cell behind A is handed to the def -/
def UpC {δ : Type} (A B : Mem) (P : δ → Mem → Prop) (d : δ) (Mc : Mem) : Prop := ∃ M2, (Mc ++ (A ++ B)).Perm M2 ∧ P d M2
theorem apC {ds : List Dat} (A : Mem) {c : MC} (h : S ds [(q, c)] (UpC A B P) (UpC A B E)) : AP S ds (A ++ (q, c) :: B) P E := ⟨_, _, List.perm_middle, h⟩
theorem outC1 {m : Res (α × List β)} {ff : α → Dat} {g : β → Dat} {Q : α × List β → Prop} (h : m.Out Q E1) (hk : ∀ r, Q r → P (ff r.1) (A ++ (q, .lst (r.2.map g)) :: B)) (hx : ∀ x, E1 x → False) :
    m.Out (fun r => UpC A B P (ff r.1) [(q, .lst (r.2.map g))]) (fun _ => False) :=
  out_mono h (fun r z => ⟨_, (List.perm_middle (l₁ := A)).symm, hk r z⟩) hx
theorem finO {σ ρ β : Type} {k : σ → Res β} {r : ρ → Res β} {s : σ} {P : β → Prop} {E : Er → Prop} (h : (Ctl.fin k r (.nx s)).Out P E) : (k s).Out P E := h
end
end Kh

set_option Elab.async false
set_option linter.all false
set_option maxRecDepth 100000
set_option maxHeartbeats 1000000
namespace Kh
open PySem PySem.Spec L2
open PyProof.Rows (Compare_chain isTrue_chain chain_link chain_last test_link test_last)
/-! ### a op b op' c .. -/
section
variable {X : Cx} {T : Bool} {τ : TEnv} {M : Mem} {P : PK'} {E : XKx} {a r r' : Expr} {rs : List Expr} {op op' : CmpOp} {ops : List CmpOp} {pos : Pos} {x : Dat} {Pb : Bool → Mem → Prop}
end
end Kh

set_option Elab.async false
set_option linter.all false
set_option maxRecDepth 100000
set_option maxHeartbeats 1000000
namespace Kh
open PySem PySem.Spec L2
/-! ### enumerate(a text) -/
section
variable {prog : Program} {w : World} {A : Around} {E : Value → Shared → Prop} {s : Shared}
end
section
variable {X : Cx} {T : Bool} {τ : TEnv} {M A B : Mem} {P : PK'} {E : XKx} {e a b c o : Expr} {es : List Expr} {pos p apos tpos : Pos} {α β σ ρ : Type} {E1 : Er → Prop} {q : Addr} {ss : List Stmt} {R : RK} {PI' : List Dat → Mem → (Mem → Prop) → Prop} {tg : Expr}
/-! ### a list cell that is changed no more, under one name -/
theorem ws_frz {ds : List Dat} {M3 : Mem} (i : Nat) (ht : τ[i]? = some (some (.raw (.ref q)))) (pm : M.Perm ((q, .lst ds) :: M3)) (h : WS X T ss (τ.set i (some (.lst ds))) M3 R) : WS X T ss τ M R := .mk fun W tk σ G H hE hH D hR => by
  obtain ⟨G', s3, h3, d3⟩ := freezeL (hH.perm pm)
  have sA : Stp G M H G' M3 H := (Stp.refl.perm (List.Perm.refl _) pm).trans s3
  refine h.run W tk σ G' H (fun j d hj => ?_) h3 D (hR.step sA)
  by_cases c : i = j
  · subst c
    have hl : i < τ.length := (List.getElem?_eq_some_iff.mp ht).1
    rw [List.getElem?_set_self hl] at hj
    cases hj
    obtain ⟨v, e1, e2⟩ := hE i _ ht
    rw [e2.raw_inv] at e1
    exact ⟨_, e1, d3⟩
  · rw [List.getElem?_set_ne c] at hj
    obtain ⟨v, e1, e2⟩ := hE j d hj
    exact ⟨v, e1, e2.up sA.gg⟩
/-! ### texts -/
def pjoin (a : Str) (ys : List Str) : Res Str := guard ((ys.map (·.length)).sum + ys.length * a.length ≤ 16777216) (Txt.join a ys)
theorem r_join {a : Str} {xs : List Dat} (ys : List Str) (he : xs = ys.map Dat.str) {Q : Str → Prop} (h : (pjoin a ys).Out Q E1) (hk : ∀ r, Q r → P (.str r) M) : BMr X "str.join" (.str a) [.lst xs] M P :=
  ⟨_, mt_join, fun G H v vs hH dv dvs Q' hP => by
    subst he
    obtain ⟨u, rfl, d2⟩ := one_inv dvs
    obtain ⟨p, ws, rfl, g, dl⟩ := d2.lst_inv
    have ew := DenL.strs dl
    subst ew
    exact ⟨a, p, ys, dv.str_inv, rfl, .inl (SqL.of (hH.sub _ _ g)), (gd h).1, hP _ _ _ _ _ (hk _ (gd h).2) Stp.refl hH den_str⟩⟩
theorem r_joinS {a : Str} {xs : List Str} {Q : Str → Prop} (h : (pjoin a xs).Out Q E1) (hk : ∀ r, Q r → P (.str r) M) : BMr X "str.join" (.str a) [lstD Dat.str xs] M P := r_join xs rfl h hk
theorem r_joinC {a : Str} {xs : List Nat} {Q : Str → Prop} (h : (pjoin a (xs.map chS)).Out Q E1) (hk : ∀ r, Q r → P (.str r) M) : BMr X "str.join" (.str a) [lstD chD xs] M P := r_join (xs.map chS) (by rw [List.map_map]; rfl) h hk
theorem ex_join (h : EX X T o τ M (fun d M1 => TyB X.K M1 d "str" ∧ EA X T (e :: es) τ M1 (fun ds M2 => BMr X "str.join" d ds M2 P) E) E)
    (hbase : attributeBase o "join" X.env (eval o X.env) = eval o X.env := by rfl)
    (hfew : ((backTo tpos (starEach (e :: es) X.env)).all (fun x => !x.1) && (backToKw tpos (keywordEach [] X.env)).all (fun x => x.1.isSome) && decide ((e :: es).length + ([] : List Keyword).length + (if ([] : List Keyword).isEmpty then 0 else 1) < 30)) = true := by rfl)
    (hline : (apos.endLine == tpos.line) = true := by rfl) (hs : starEach (e :: es) X.env = (false, eval e X.env) :: starEach es X.env := by rfl) (hplain : (backTo tpos (starEach es X.env)).any (·.1) = false := by rfl) :
    EX X T (.Call (.Attribute o "join" apos) (e :: es) [] tpos) τ M P E := ex_bm PySem.F.plainAttrs_str PySem.F.slot_str_join PySem.F.type_str_join h hbase hfew hline hs hplain
/-! ### a list against [] -/
theorem r_eqNil {xs : List Dat} (hu : X.A.units + 64 < cLine) (h : P (.bl xs.isEmpty) M) : OP X T (compareOp .Eq) (.lst xs) (.lst []) M P := by
  cases xs with
  | nil => exact o_eqLT rfl (by decide) hu h
  | cons x xs => exact o_eqLn (by simp) hu h
theorem r_neNil {xs : List Dat} (hu : X.A.units + 64 < cLine) (h : P (.bl (!xs.isEmpty)) M) : OP X T (compareOp .NotEq) (.lst xs) (.lst []) M P := by
  cases xs with
  | nil => exact o_neLT rfl (by decide) hu h
  | cons x xs => exact o_neLn (by simp) hu h
theorem isE_map {f : α → Dat} {xs : List α} : (xs.map f).isEmpty = xs.isEmpty := by cases xs <;> rfl
theorem r_eqNilT (f : α → Dat) {xs : List α} (hu : X.A.units + 64 < cLine) (h : P (.bl xs.isEmpty) M) : OP X T (compareOp .Eq) (lstD f xs) (.lst []) M P := r_eqNil hu (by rw [isE_map]; exact h)
theorem r_neNilT (f : α → Dat) {xs : List α} (hu : X.A.units + 64 < cLine) (h : P (.bl (!xs.isEmpty)) M) : OP X T (compareOp .NotEq) (lstD f xs) (.lst []) M P := r_neNil hu (by rw [isE_map]; exact h)
end
theorem c_isx {X : Cx} {M : Mem} {P : PK'} {d : Dat} {cv : V} {u : Value} {k : Bool} (hc : ClsV cv u) (ht : ∃ t, (∀ M, TyD X.K M d t) ∧ PySem.W.kitOne X.K t u = some k) (h : P (.bl k) M) : BC X (.builtin "isinstance") [d, .raw cv] M P :=
  let ⟨_, h1, h2⟩ := ht
  c_isi hc (h1 M) h2 h
/-! ### methods of own classes -/
theorem FnOk.mono {P : Program} {w : World} {K : PySem.W.Frag} {mg : Str → Option Value} {base : Heap} {k : Nat} {f : Addr} {fd : FuncData} {ps : List Str} {CX : CXT} {sp sp' : Sp} (h : FnOk P w K mg base CX k f fd ps sp) (hi : ∀ vs H Q E, sp' vs H Q E → sp vs H Q E) : FnOk P w K mg base CX k f fd ps sp' :=
  ⟨fun vs H Q E q => h.len vs H Q E (hi _ _ _ _ q), fun A outer s H args us vs Q E hr e0 hb r hsp => h.run A outer s H args us vs Q E hr e0 hb r (hi _ _ _ _ hsp)⟩
theorem FnD.mono {P : Program} {w : World} {K : PySem.W.Frag} {mg : Str → Option Value} {base : Heap} {k : Nat} {f : Addr} {fd : FuncData} {ps : List Str} {S S' : Spc} (h : FnD P w K mg base k f fd ps S) (hi : ∀ ds M Pd PE, S' ds M Pd PE → S ds M Pd PE) : FnD P w K mg base k f fd ps S' :=
  FnOk.mono h fun vs H Q E ⟨G, ds, M, Pd, PE, h1, h2, h3, h4, h5⟩ => ⟨G, ds, M, Pd, PE, h1, h2, hi _ _ _ _ h3, h4, h5⟩
section
variable {X : Cx} {T : Bool} {τ : TEnv} {M : Mem} {P : PK'} {E : XKx} {e o : Expr} {es : List Expr} {pos p apos : Pos} {m : Str}
/-- what becomes of an instance that is made: it is frozen at once -/
theorem made_ok {C x dx : Addr} {fs : List (Str × Dat)} (h : P (.obj C (fs.map (·.1)) (fs.map (·.2))) M) : MadeP P x ((x, .ins C dx fs) :: M) := .inr ⟨C, dx, fs, M, List.Perm.refl _, h⟩
end
end Kh

set_option Elab.async false
set_option linter.all false
set_option maxRecDepth 100000
set_option maxHeartbeats 1000000
namespace Kh
open PySem PySem.Spec L2
/-! ### own operators -/
section
variable {prog : Program} {w : World} {A : Around} {E : Value → Shared → Prop} {s : Shared} {K : PySem.W.Frag} {x C L f : Addr} {h₀ : Heap} {m : Str → Option Value} {ox : Obj} {od : Option Obj} {name : Str} {b tb : Value}
open PySem.W in
open PySem.W in
end
section
variable {X : Cx} {T : Bool} {τ : TEnv} {M : Mem} {P : PK'} {E : XKx} {a b e o : Expr} {es : List Expr} {pos p apos : Pos} {k : Nat} {fa C : Addr} {fd : FuncData} {ps : List Str} {S : Spc} {W : WX}
/-- a def's call around another place -/
theorem run_dA {A' : Around} {pins : List (Addr × Obj)} {σ : L2.St} {H : Hp} {s : Shared} {Q : VK} {us : List Value} {vs : List V} (F : FnD X.prog X.w X.K X.mg X.base k fa fd ps S) (hr : Room k A') (he : Env0 X.prog X.w X.K X.mg X.base A' X.stack s H) (hb : Binds X.K fd ps []) (tk : Takes X W)
    (I : Inv X pins σ H s) (r : Vals vs us) (h : toSp X.K S vs H Q (fun c d H2 => W c d σ H2)) : wpAny (model X.prog X.w) A' (call (.ref fa) us) (EP X pins σ Q) X.xe s := by
  have hl : (us ++ []).length = ps.length := by rw [List.append_nil, ← r.length]; exact F.len _ _ _ _ h
  have hbb := hb s us I.kIn hl
  rw [List.append_nil] at hbb
  refine wpAny_call (codeAny_mono (F.run A' X.stack s H ⟨us, []⟩ us vs Q _ hr he hbb r h) fun r s' hq => ?_)
  cases r with
  | error e => exact tk e s' (XE.of_call I (fun cls d H' h => h) hq)
  | ok fl =>
    cases fl with
    | ret u => exact I.after hq
    | next => exact False.elim hq
    | brk => exact False.elim hq
    | cont => exact False.elim hq
/-- len(x), x with an own __len__ -/
theorem bc_w {f : Value} {ds : List Dat} (h : ∀ G H vs, Hst X.K G M H → DenL X.K G ds vs → ∀ Q, CE' X.K G M H P Q → ∀ pins s σ us, Inv X pins σ H s → Vals vs us → wpAny (model X.prog X.w) X.A (call f us) (EP X pins σ Q) X.xe s) : BC X f ds M P :=
  ⟨fun vs H Q => ∀ pins s σ us, Inv X pins σ H s → Vals vs us → wpAny (model X.prog X.w) X.A (call f us) (EP X pins σ Q) X.xe s, fun pins s σ H vs us Q I r h => h pins s σ us I r, fun G H vs hH dv Q hP pins s σ us I r => h G H vs hH dv Q hP pins s σ us I r⟩
theorem c_lenOwn {x : Dat} (F : FnD X.prog X.w X.K X.mg X.base k fa fd ps S) (hr : Room (k + 1) X.A) (hs : PySem.W.findIn X.K (.ref C) "__len__" = some (some (.ref fa))) (hf : PySem.W.isFn X.K (.ref fa) = true) (hb : Binds X.K fd ps [])
    (hx : ∀ M, IsI C "__eq__" M x) (h : S [x] M (UpP fun d M2 => ∃ i, d = .int i ∧ (0 ≤ i ∧ i < 2 ^ 63) ∧ P d M2) (UpP E0')) : BC X (.builtin "len") [x] M P := bc_w fun G H vs hH dv Q hP pins s σ us I r => by
  obtain ⟨v, rfl, dx⟩ := one_inv dv
  obtain ⟨a, dxa, fs, rfl, ea, _⟩ := (hx M).get hH dx
  cases r with
  | cons r1 rr =>
    cases rr
    obtain rfl := r1
    obtain ⟨mA, J, _⟩ := ins_get I.hok ea
    obtain ⟨od, J, _⟩ := J.look
    obtain ⟨m, hF⟩ := I.fr
    have hsp : toSp X.K S [.ref a] H (fun z H' => ∃ i, z = .int i ∧ (0 ≤ i ∧ i < 2 ^ 63) ∧ Q (.int i) H') (fun _ _ _ => False) :=
      ap_toSp (ap_all h) (.cons dx .nil) hH (fun d M2 z G2 H2 ⟨i, ed, hi, hp⟩ s2 h2 dz => by subst ed; exact ⟨i, dz.int_inv, hi, hP _ _ _ _ _ hp s2 h2 den_int⟩) noX
    refine PySem.W.len_K hF I.ok.mod.kin J hs hf ?_
    refine wpAny_mono (run_dA (W := fun _ _ _ _ => False) (us := [.ref a]) (vs := [.ref a]) F hr.in1 I.env0.in1 hb takes0 I (.cons rfl .nil) hsp) (fun r s' q => ?_) fun _ _ z => z
    obtain ⟨z, H', I', rz, i, ez, hi, q⟩ := q
    subst ez
    obtain ⟨t, rfl⟩ := rz
    exact ⟨hi, .int i, H', I'.tok _, ⟨_, rfl⟩, q⟩
def plenO (m : Res Int) : Res Int := m.ne.bind fun i => guard (0 ≤ i ∧ i < 2 ^ 63) i
theorem lenO {Q : Int → Prop} {E1 : Er → Prop} {ex : Er → Exn} : ∀ {m : Res Int} (h : (plenO m).Out Q E1) (hk : ∀ i, Q i → P (.int i) M),
    m.Out (fun r => UpP (fun (d : Dat) (M2 : Mem) => ∃ i, d = Dat.int i ∧ (0 ≤ i ∧ i < 2 ^ 63) ∧ P d M2) (Dat.int r) M) (fun x => UpP E0' (ex x) M)
  | .ok i, h, hk => by
    have h2 := gd h
    exact UpP.mk (P := fun (d : Dat) (M2 : Mem) => ∃ i, d = Dat.int i ∧ (0 ≤ i ∧ i < 2 ^ 63) ∧ P d M2) ⟨i, rfl, h2.1, hk _ h2.2⟩
  | .err _, h, _ => h.elim
  | .bad, h, _ => h.elim
  | .all f, h, hk => fun q => lenO (m := f q) (h q) hk
end
/-! ### a comprehension that changes cells -/
section
variable {X : Cx} {T : Bool} {τ : TEnv} {M : Mem} {P : PK'} {E : XKx} {t e iter tg : Expr} {pos : Pos} {α β σ ρ : Type} {E1 : Er → Prop}
theorem compST {xs : List α} (f : α → Dat) (f2 : β → Dat) {g : σ → α → Res (Option β × σ)} {s0 : σ} (Mf : σ → Mem) {Ok : Mem → Prop} {vs : List Nat} {scope : Scope} {ifs : List Expr} {elt : Expr} {Q : List β × σ → Prop} (h : (compS g xs s0).Out Q E1) (hOk : ∀ s, Ok (Mf s))
    (step : ∀ x s0 (N : Option β × σ → Prop), (g s0 x).Out N (fun _ => False) → ∀ (s : Shared) (H : Hp) (C : Addr) (cl : List (Str × Addr)) (fp : List Addr), GC (Cx.Bk X scope s H C cl fp) vs tg (f x) (wipeT τ vs) (Mf s0) (fun τ2 M2 => ∀ (s : Shared) (H : Hp) (C : Addr) (cl : List (Str × Addr)) (fp : List Addr),
        EFs (Cx.Bk X scope s H C cl fp) ifs τ2 M2 (fun b M3 => (b = true → ∀ (s : Shared) (H : Hp) (C : Addr) (cl : List (Str × Addr)) (fp : List Addr), EX (Cx.Bk X scope s H C cl fp) false elt τ2 M3 (fun y M4 => ∃ v s2, M4 = Mf s2 ∧ y = f2 v ∧ N (some v, s2)) E0') ∧ (b = false → ∃ s2, M3 = Mf s2 ∧ N (none, s2)))))
    (fin : ∀ r, Q r → P (lstD f2 r.1) (Mf r.2)) :
    LcQ X scope vs tg ifs elt τ (xs.map f) (Mf s0) Ok P := by
  unfold compS at h
  split at h
  case isFalse => exact h.elim
  rename_i hl
  have h : (compSL g xs s0).Out Q (fun _ => False) := ne_out h
  refine ⟨by rw [List.length_map]; exact hl, fun i acc M => ∃ s, M = Mf s ∧ ∃ ys : List β, acc = ys.map f2 ∧ (compSL g (xs.drop i) s).Out (fun r => Q (ys ++ r.1, r.2)) (fun _ => False), ⟨s0, rfl, [], rfl, h⟩, fun i acc M ⟨s, e, _⟩ => by rw [e]; exact hOk s, ?_, ?_⟩
  · rintro i d acc M hd ⟨s0, rfl, ys, rfl, h2⟩ s H C cl fp
    rw [List.getElem?_map] at hd
    obtain ⟨x, hx, rfl⟩ := Option.map_eq_some_iff.mp hd
    obtain ⟨hi, rfl⟩ := List.getElem?_eq_some_iff.mp hx
    rw [List.drop_eq_getElem_cons hi] at h2
    refine GC.impP (fun τ2 M2 hw => ?_) (step _ s0 _ (ob h2) s H C cl fp)
    intro s H C cl fp σ G H' hE hH Q' hQ
    refine hw s H C cl fp σ G H' hE hH Q' fun b M3 G3 H3 ⟨p1, p2⟩ s3 h3 => hQ b M3 G3 H3 ⟨fun eb s H C cl fp => ?_, fun eb => ?_⟩ s3 h3
    · refine (p1 eb s H C cl fp).imp (fun y M4 ⟨v, s2, e4, ev, hv⟩ => ?_) fun _ _ x => x
      subst ev
      refine ⟨s2, e4, ys ++ [v], by simp, ?_⟩
      have hv := ob hv
      refine out_mono hv (fun r q => ?_) fun _ z => z
      have : Q (ys ++ ((some v).toList ++ r.1), r.2) := q
      simpa using this
    · obtain ⟨s2, e3, hv⟩ := p2 eb
      refine ⟨s2, e3, ys, rfl, ?_⟩
      exact out_mono (ob hv) (fun r q => by have : Q (ys ++ ((none : Option β).toList ++ r.1), r.2) := q; simpa using this) fun _ z => z
  · rintro acc M ⟨s, rfl, ys, rfl, h2⟩
    rw [List.length_map, List.drop_length] at h2
    have : Q (ys ++ [], s) := h2
    rw [List.append_nil] at this
    exact fin (ys, s) this
end
end Kh

set_option Elab.async false
set_option linter.all false
set_option maxRecDepth 100000
set_option maxHeartbeats 4000000
namespace Kh
open PySem PySem.Spec L2
/-! ### text[::-1] -/
section
variable {X : Cx} {T : Bool} {τ : TEnv} {M : Mem} {P : PK'} {E : XKx} {e : Expr} {pos p1 p2 p3 : Pos} {kk : Nat}
open PyProof.Rows in
end
/-! ### a property by an instance's class -/
end Kh

set_option Elab.async false
set_option linter.all false
set_option maxRecDepth 100000
set_option maxHeartbeats 1000000
namespace Kh
open PySem PySem.Spec L2
/-! ### for x in an instance whose __iter__ gives iter(a text of its own) -/
end Kh

set_option Elab.async false
set_option linter.all false
set_option maxRecDepth 100000
set_option maxHeartbeats 1000000
namespace Kh
open PySem PySem.Spec L2
/-! ### list(a text) -/
end Kh

set_option Elab.async false
set_option linter.all false
set_option maxRecDepth 100000
set_option maxHeartbeats 4000000
namespace Kh
open PySem PySem.Spec L2
open PySem.W PySem.Calls PyProof.Rows PySem.HandSPX

/-! ### several except clauses, each 'except C as n' -/
/-- what the clauses wish of an exception of the body, one after the other -/
def wAsN (K : PySem.W.Frag) (Wout : WX) (D : Ends) : List (Value × Nat × (Addr → Value → Option Addr → TS)) → WX
  | [] => Wout
  | (c, i, ts) :: r => fun cls d σ H => ∃ b, PySem.W.exmOne K cls c = some b ∧
      (b = true → ∀ a, H a = none → ts a cls d { nx := fun σ' H' => D.nx (σ'.set i none) H', rt := D.rt, bk := fun σ' H' => D.bk (σ'.set i none) H', ct := fun σ' H' => D.ct (σ'.set i none) H' } (σ.set i (some (.ref a))) H) ∧
      (b = false → wAsN K Wout D r cls d σ H)
/-- a clause: class's name, class, name told, suite -/
structure Cl where
  x : Str
  np : Pos
  c : Value
  n : Str
  b₀ : Stmt
  suite : List Stmt
  pos : Pos
def Cl.hd (l : Cl) : ExceptHandler := .ExceptHandler (some (.Name l.x l.np)) (some l.n) (l.b₀ :: l.suite) l.pos
inductive HdsN (X : Cx) : List Cl → List (Value × Nat × (Addr → Value → Option Addr → TS)) → Prop
  | nil : HdsN X [] []
  | cons {l : Cl} {i : Nat} {ts : Addr → Value → Option Addr → TS} {ls : List Cl} {r : List (Value × Nat × (Addr → Value → Option Addr → TS))} (hc : Names X l.x l.c) (hi : X.N[i]? = some l.n) (hln : X.env.kindOf l.n = some .local)
      (hsu : ∀ (a : Addr) (oe : Obj) (cls : Value) (d : Option Addr) (pn : List (Addr × Obj)), Zc cls d oe → (∃ vs, oe.data = .fields vs) → PSs (X.suite a ((a, oe) :: pn)) (l.b₀ :: l.suite) (ts a cls d)) (hr : HdsN X ls r) :
      HdsN X (l :: ls) ((l.c, i, ts) :: r)
section
variable {X : Cx} {body : List Stmt} {l₀ : Cl} {ls : List Cl} {r : List (Value × Nat × (Addr → Value → Option Addr → TS))} {pos : Pos} {tb : WX → TS} {Wout : WX}
theorem ps_try_asN (hs : X.stack = X.env :: X.outer) (hf : X.env.frame = some X.env.locals) (hN : X.N.Nodup) (tk : Takes X Wout)
    (hb : ∀ (W : WX) (pn : List (Addr × Obj)) (xe : Value → Shared → Prop), Takes (X.tr pn xe) W → PassesOwn (model X.prog X.w) X.A X.env xe → PSs (X.tr pn xe) body (tb W))
    (hh : HdsN X (l₀ :: ls) r) : PS X (.Try body (l₀.hd :: ls.map Cl.hd) [] [] pos) (fun D σ H => tb (wAsN X.K Wout D r) D σ H) := by
  refine ⟨fun pins s σ H D I h => ?_⟩
  have ok := I.ok
  have hfr : X.A.frames = some (X.env :: X.outer) := by rw [ok.frames, hs]
  refine wpAny_Try_except ?_
  refine wpAny_mono ((hb (wAsN X.K Wout D r) (X.pn ++ pins) (fun e s₁ => wpAny (model X.prog X.w) X.A (noteFrame e X.env) (fun _ s₂ => wpAny (model X.prog X.w) X.A (setFlight e none) (fun _ s₃ =>
    wpAny (model X.prog X.w) X.A (handleBy e X.env (l₀.hd :: ls.map Cl.hd)) (SP X pins D) X.xe s₃) X.xe s₂) X.xe s₁) (fun u s' xx => ?_) PassesOwn.looking).run [] s σ H D (I.toTry _) h) (fun f s1 hsp => ?_) (fun e s1 he => he)
  · -- the catch
    obtain ⟨a, B, sI, pins', σ', H', cls, d, rfl, J', nb, up, sky, na, os, ag, w⟩ := xx
    have J : Inv X pins σ' H' sI := J'.ofTry ok
    have sky' : Sky B (X.env :: X.outer) a (Zc cls d) X.env.locals s'.heap := by rw [← hs]; exact sky
    show wpAny (model X.prog X.w) X.A (noteFrame (.ref a) X.env) _ _ _
    refine Sky.land Zc.steady hfr hf sky' fun h3 fl3 up3 => ?_
    have J3 : Inv X pins σ' H' { s' with heap := h3 } := J.landed nb fl3.1 (up.trans up3) os ag
    obtain ⟨oe3, vs3, he3, hz3, hd3⟩ := fl3.there
    have notFr : ∀ {h : Heap} {o : Obj} {vs : Array Value}, h.FunFrames B (X.env :: X.outer) → h.get? a = some o → o.data = .fields vs → a ∉ frs (X.env :: X.outer) := fun {h o vs} ff e dd hm => by
      obtain ⟨_, o', e', hnf⟩ := ff.mem hm
      rw [e] at e'; cases e'
      exact hnf _ dd
    have nfr := notFr fl3.2.2.1 he3 hd3
    have nL : a ≠ X.env.locals := fun z => nfr (List.mem_filterMap.mpr ⟨X.env, List.mem_cons_self, by rw [hf, z]⟩)
    have nF : a ∉ X.fs := fun hm => by
      obtain ⟨e, he, q⟩ := List.mem_filterMap.mp hm
      exact nfr (List.mem_filterMap.mpr ⟨e, List.mem_cons_of_mem _ he, q⟩)
    have S3 := J3.suite he3 hd3 na nL nF
    have go : ∀ {ls' : List Cl} {l' : List (Value × Nat × (Addr → Value → Option Addr → TS))}, HdsN X ls' l' → wAsN X.K Wout D l' cls d σ' H' →
        wpAny (model X.prog X.w) X.A (handleBy (.ref a) X.env (ls'.map Cl.hd)) (SP X pins D) X.xe { s' with heap := h3 } := by
      intro ls' l' hk
      induction hk with
      | nil =>
        intro w
        refine wpAny_handleBy_nil ?_
        obtain ⟨k1, k2, k3, oe, vs, T, oT, ts', he, hz, hd, h1, hr⟩ := id fl3
        unfold PySem.passOn
        refine wpAny_bind (wpAny_field he hd h1 ?_)
        rw [if_neg (show ¬ ((Value.ref T == Value.none) = true) from by simp)]
        have fin : wpAny (model X.prog X.w) X.A (setFlight (.ref a) X.env.frame) (fun _ s4 => wpAny (model X.prog X.w) X.A (throw (.ref a) : Sem Flow) (SP X pins D) X.xe s4) X.xe { s' with heap := h3 } := by
          rw [hf]
          refine HandSPX.setFlight_upZ fl3 fun h4 hh4 up4 => wpAny_throw (tk _ _ ?_)
          exact ⟨a, B, sI, pins, σ', H', cls, d, rfl, J, nb, (up.trans up3).trans up4, .inr (.inr (by rw [hs]; exact hh4)), na, os, ag, w⟩
        first
          | exact wpAny_bind (wpAny_pure (wpAny_bind fin))
          | exact wpAny_bind fin
      | @cons l i ts ls2 r2 hc hi hln hsu hr ih =>
        intro w
        obtain ⟨b, hb1, hyes, hno⟩ := w
        show wpAny (model X.prog X.w) X.A (handleBy (.ref a) X.env (.ExceptHandler (some (.Name l.x l.np)) (some l.n) (l.b₀ :: l.suite) l.pos :: ls2.map Cl.hd)) _ _ _
        refine wpAny_handleBy_cons (codeAny_handlers_test ?_) (by intro q; cases q)
        have LT : PySem.W.Looks (model X.prog X.w) h3 (typeOf (.ref a)) cls := fun A Q E s k q => wpAny_typeOf_ref (k _ _ he3) (by rw [hz3.1]; exact q)
        have LM := PySem.W.exm_one (M := model X.prog X.w) (J3.kIn) LT hb1
        have test : ∀ {Q : Value → Shared → Prop} {E : Value → Shared → Prop}, Q l.c { s' with heap := h3 } → wpAny (model X.prog X.w) (X.A.mark (some (.ref a))) (eval (.Name l.x l.np) X.env) Q E { s' with heap := h3 } := fun {Q E} q => by
          obtain ⟨hg, hdbg, hm | ⟨hm, hv, hnn⟩⟩ := hc
          · exact ld_glob (X := X.suite a ((a, oe3) :: (X.pn ++ pins))) S3 hg hm q hdbg
          · exact ld_blt (X := X.suite a ((a, oe3) :: (X.pn ++ pins))) S3 hg hm hv q hnn hdbg
        refine test (LM.here ?_)
        have hloc : Loc X.env.scope l.n := .inl hln
        cases b with
        | true =>
          refine codeAny_handlers_suite_as ?_
          refine HandSPX.lands_againZ fl3 fun h4 fl4 up4 => ?_
          have J4 : Inv X pins σ' H' { s' with heap := h4 } := J.landed nb fl4.1 ((up.trans up3).trans up4) os ag
          obtain ⟨oe4, vs4, he4, hz4, hd4⟩ := fl4.there
          have S4 := J4.suite he4 hd4 na nL nF
          refine store_ok (X := X.suite a ((a, oe4) :: (X.pn ++ pins))) (v := .ref a) S4 hN hi hloc rfl (fun s5 S5 => ?_) (.inr hln)
          refine wpAny_mono ((hsu a oe4 cls d (X.pn ++ pins) hz4 ⟨_, hd4⟩).run [] s5 _ H' _ S5 (hyes rfl a na)) (fun f s6 hsp => ?_) (fun _ _ z => False.elim z)
          have end_ : ∀ {σ6 : L2.St} {H6 : Hp} {Q : Shared → Prop}, Inv (X.suite a ((a, oe4) :: (X.pn ++ pins))) [] σ6 H6 s6 → (∀ s7, Inv X pins (σ6.set i none) H6 s7 → Q s7) →
              wpAny (model X.prog X.w) X.A (do bindName X.env l.n .none; unbindBehindTheSuite X.env l.n l.pos) (fun _ s7 => Q s7) X.xe s6 := fun {σ6 H6 Q} S6 hq => gone_ok (S6.unsuite ok) hN hi hln hq
          cases f with
          | next =>
            obtain ⟨σ6, H6, S6, q6⟩ := hsp
            exact end_ S6 fun s7 J7 => ⟨_, _, J7, q6⟩
          | brk =>
            obtain ⟨σ6, H6, S6, q6⟩ := hsp
            exact end_ S6 fun s7 J7 => ⟨_, _, J7, q6⟩
          | cont =>
            obtain ⟨σ6, H6, S6, q6⟩ := hsp
            exact end_ S6 fun s7 J7 => ⟨_, _, J7, q6⟩
          | ret u =>
            obtain ⟨v6, σ6, H6, S6, r6, q6⟩ := hsp
            exact end_ S6 fun s7 J7 => ⟨_, _, _, J7, r6, q6⟩
        | false =>
          show wpAny _ X.A (handleBy (.ref a) X.env (ls2.map Cl.hd)) _ _ _
          exact ih (hno rfl)
    exact go hh w
  · cases f with
    | next =>
      obtain ⟨σ', H', J', q⟩ := hsp
      exact wpAny_execs_nil ⟨σ', H', J'.ofTry ok, q⟩
    | brk =>
      obtain ⟨σ', H', J', q⟩ := hsp
      exact ⟨σ', H', J'.ofTry ok, q⟩
    | cont =>
      obtain ⟨σ', H', J', q⟩ := hsp
      exact ⟨σ', H', J'.ofTry ok, q⟩
    | ret u =>
      obtain ⟨v, σ', H', J', r, q⟩ := hsp
      exact ⟨v, σ', H', J'.ofTry ok, r, q⟩
end

/-! ### over the judgement of statements -/
/-- the clauses, one after the other, at an exception x of the body -/
def catN (X : Cx) (k : TEnv → Mem → Prop) (R : RK) (x : Exn) (τ : TEnv) (M : Mem) : List Cl → Prop
  | [] => R (.ex x τ) M
  | l :: ls => ∃ b, PySem.W.exmOne X.K (.ref x.C) l.c = some b ∧
      (b = true → x.ns ≠ [] ∧ ∀ a dd oe pn, Zc (.ref x.C) (some dd) oe → (∃ vs, oe.data = .fields vs) → WS (X.suite a ((a, oe) :: pn)) false (l.b₀ :: l.suite) (τ.set (ixIn X.N l.n) (some (.xn a dd x.ns x.ds))) M (suiteR (ixIn X.N l.n) k R)) ∧
      (b = false → catN X k R x τ M ls)
def tryRN (X : Cx) (ls : List Cl) (k : TEnv → Mem → Prop) (R : RK) : RK
  | .nx τ, M => k τ M
  | .ex x τ, M => catN X k R x τ M ls
  | o, M => R o M
/-- what is to be known of the clauses' names -/
inductive ClOk (X : Cx) : List Cl → Prop
  | nil : ClOk X []
  | cons {l : Cl} {ls : List Cl} (hc : Names X l.x l.c) (hi : X.N[ixIn X.N l.n]? = some l.n) (hln : X.env.kindOf l.n = some .local) (hr : ClOk X ls) : ClOk X (l :: ls)
/-- what the suites take -/
def tsN (X : Cx) (l : Cl) : Value × Nat × (Addr → Value → Option Addr → TS) :=
  (l.c, ixIn X.N l.n, fun a cls d D σ H => ∀ oe pn, Zc cls d oe → (∃ vs, oe.data = .fields vs) → tWSs (X.suite a ((a, oe) :: pn)) false (l.b₀ :: l.suite) D σ H)
theorem hdsN {X : Cx} : ∀ {ls : List Cl}, ClOk X ls → HdsN X ls (ls.map (tsN X))
  | _, .nil => .nil
  | _, .cons hc hi hln hr => .cons hc hi hln (fun a oe cls d pn hz hv => ⟨fun pins s σ H D I h => h oe pn hz hv pins s tk_f I⟩) (hdsN hr)
section
variable {X : Cx} {T : Bool} {τ : TEnv} {M : Mem} {R : RK} {rest body : List Stmt} {pos : Pos} {l₀ : Cl} {ls : List Cl}
theorem catN_run {W : WX} {D : Ends} {nx : L2.St → Hp → Prop} {G2 H2 : Hp} {k : TEnv → Mem → Prop} {y : Exn} {τ' : TEnv} {M2 : Mem} (tk : Takes X W) (h2 : Hst X.K G2 M2 H2)
    (hk : ∀ τ3 M3 G3 H3 σ3, k τ3 M3 → Stp G2 M2 H2 G3 M3 H3 → Hst X.K G3 M3 H3 → DenE X.K τ3 G3 σ3 → nx σ3 H3) (hR : CS' X.K G2 M2 H2 R D W)
    {σ' : L2.St} {d : Option Addr} (hE' : DenE X.K τ' G2 σ') (dx : DenX X.K G2 H2 y d) :
    ∀ {ls : List Cl}, ClOk X ls → catN X k R y τ' M2 ls → wAsN X.K W { D with nx := nx } (ls.map (tsN X)) (.ref y.C) d σ' H2
  | [], _, r => hR _ _ _ _ r Stp.refl h2 σ' d hE' dx
  | l :: ls, .cons hc hi hln hr, r => by
    obtain ⟨b, hb, h1, h0⟩ := r
    refine ⟨b, hb, fun e => ?_, fun e => catN_run tk h2 hk hR hE' dx hr (h0 e)⟩
    obtain ⟨hns, h1⟩ := h1 e
    intro a ha oe pn hz hv
    rcases dx with ⟨z, _⟩ | ⟨dd, vs, rfl, hg, dv⟩
    · exact absurd z hns
    · refine fun pins s kt I => ?_
      have hl2 := I.len
      have hlt2 : ixIn X.N l.n < σ'.length := by
        have : (σ'.set (ixIn X.N l.n) (some (.ref a))).length = X.N.length := hl2
        rw [List.length_set] at this
        rw [this]; exact (List.getElem?_eq_some_iff.mp hi).1
      refine (h1 a dd oe pn hz hv).run _ takes0 (σ'.set (ixIn X.N l.n) (some (.ref a))) G2 H2 (hE'.set hlt2 (by simp only [Den, true_and]; exact ⟨vs, hg, dv⟩)) h2 _ ?_ pins s kt I
      intro o M3 G3 H3 r3 s3 h3
      cases o with
      | nx τ3 => exact fun σ3 e3 => hk _ _ _ _ _ r3 s3 h3 e3.unset
      | rt d => exact fun v dv => hR _ _ _ _ r3 s3 h3 v dv
      | bk τ3 => exact fun σ3 e3 => hR _ _ _ _ r3 s3 h3 _ e3.unset
      | ct τ3 => exact fun σ3 e3 => hR _ _ _ _ r3 s3 h3 _ e3.unset
      | ex z τ3 => exact r3.elim
/-- try: body, except C as n: suite, except .. -/
theorem ws_tryN (hs : X.stack = X.env :: X.outer) (hf : X.env.frame = some X.env.locals) (hc : ClOk X (l₀ :: ls))
    (h : ∀ pn xe, PassesOwn (model X.prog X.w) X.A X.env xe → WS (X.tr pn xe) false body τ M (tryRN X (l₀ :: ls) (fun τ' M' => WS X T rest τ' M' R) R))
    (hN : X.N.Nodup := by first | decide +kernel | exact of_decide_eq_true (by kernel_rfl)) :
    WS X T (.Try body (l₀.hd :: ls.map Cl.hd) [] [] pos :: rest) τ M R := .mk fun W tk σ G H hE hH D hR => by
  refine ws_step (ps_try_asN (r := (l₀ :: ls).map (tsN X)) (tb := fun W D σ H => ∀ pn xe, Takes (X.tr pn xe) W → PassesOwn (model X.prog X.w) X.A X.env xe → tWSs (X.tr pn xe) false body D σ H) hs hf hN tk
    (fun W pn xe tk po => ⟨fun pins s σ H D I h => h pn xe tk po pins s tk_f I⟩) (hdsN hc)) ?_
  intro pn xe tk2 po
  refine (h pn xe po).run _ tk2 σ G H hE hH _ ?_
  intro o M2 G2 H2 r s2 h2
  cases o with
  | nx τ' => exact fun σ' hE' => r.run W tk σ' G2 H2 hE' h2 D (hR.step s2)
  | rt d => exact hR _ _ _ _ r s2 h2
  | bk τ' => exact hR _ _ _ _ r s2 h2
  | ct τ' => exact hR _ _ _ _ r s2 h2
  | ex y τ' =>
    intro σ' d hE' dx
    exact catN_run tk h2 (fun τ3 M3 G3 H3 σ3 q s3 h3 e3 => q.run W tk σ3 G3 H3 e3 h3 D ((hR.step s2).step s3)) (hR.step s2) hE' dx hc r
end
end Kh

set_option Elab.async false
set_option linter.all false
set_option maxRecDepth 100000
set_option maxHeartbeats 1000000
namespace Kh
open PySem PySem.Spec L2
/-! ### an error caught -/
namespace Res
def grab {α : Type} : Res α → (Er → Res α) → Res α
  | .ok a, _ => .ok a
  | .err x, k => k x
  | .bad, _ => .bad
  | .all f, k => .all fun q => (f q).grab k
end Res
section
variable {α : Type}
@[simp] theorem grab_ok {a : α} {k : Er → Res α} : (Res.ok a).grab k = .ok a := rfl
@[simp] theorem grab_err {x : Er} {k : Er → Res α} : (Res.err x).grab k = k x := rfl
theorem grab_out {k : Er → Res α} {P : α → Prop} {E : Er → Prop} : ∀ {m : Res α}, (m.grab k).Out P E → m.Out P (fun x => (k x).Out P E)
  | .ok _, h => h
  | .err _, h => h
  | .bad, h => h
  | .all f, h => fun q => grab_out (m := f q) (h q)
end
/-! ### values of any kind compared -/
mutual
def eqA : Any → Any → Bool
  | .non, .non => true
  | .bl a, .bl b => decide (a = b)
  | .int i, .int j => decide (i = j)
  | .str s, .str t => decide (s = t)
  | .lst xs, .lst ys => eqAL xs ys
  | .tup xs, .tup ys => eqAL xs ys
  | .tag a _, .tag b _ => decide (a = b)
  | .cel a, .cel b => decide (a = b)
  | _, _ => false
def eqAL : List Any → List Any → Bool
  | [], [] => true
  | x :: xs, y :: ys => eqA x y && eqAL xs ys
  | _, _ => false
end
mutual
def dpA : Any → Nat
  | .lst xs => dpAL xs + 1
  | .tup xs => dpAL xs + 1
  | _ => 1
def dpAL : List Any → Nat
  | [] => 0
  | x :: xs => max (dpA x) (dpAL xs)
end
section
variable {cl : OK → Addr × List Str}
mutual
theorem eqA_D : ∀ {x y : Any}, eqA x y = true → eqT (anyD cl x) (anyD cl y) = true
  | .non, y, h => by cases y <;> simp [eqA] at h; simp [anyD, eqT]
  | .bl a, y, h => by cases y <;> simp [eqA] at h; simp [anyD, eqT, h]
  | .int a, y, h => by cases y <;> simp [eqA] at h; simp [anyD, eqT, h]
  | .str a, y, h => by cases y <;> simp [eqA] at h; simp [anyD, eqT, h]
  | .lst xs, y, h => by
    cases y <;> simp [eqA] at h
    simp only [anyD, eqT]; exact eqAL_D h
  | .tup xs, y, h => by
    cases y <;> simp [eqA] at h
    simp only [anyD, eqT]; exact eqAL_D h
  | .tag a _, y, h => by cases y <;> simp [eqA] at h; simp [anyD, eqT, h]
  | .cel a, y, h => by cases y <;> simp [eqA] at h; simp [anyD, eqT, h]
  | .dic, y, h => by cases y <;> simp [eqA] at h
  | .obj _ _, y, h => by cases y <;> simp [eqA] at h
theorem eqAL_D : ∀ {xs ys : List Any}, eqAL xs ys = true → eqTL (anyDL cl xs) (anyDL cl ys) = true
  | [], [], _ => by simp [anyDL, eqTL]
  | x :: xs, y :: ys, h => by
    simp only [eqAL, Bool.and_eq_true] at h
    simp only [anyDL, eqTL, Bool.and_eq_true]
    exact ⟨eqA_D h.1, eqAL_D h.2⟩
  | [], _ :: _, h => by simp [eqAL] at h
  | _ :: _, [], h => by simp [eqAL] at h
end
mutual
theorem dpA_D : ∀ {x : Any}, dpD (anyD cl x) = dpA x
  | .non => by simp [anyD, dpD, dpA]
  | .bl _ => by simp [anyD, dpD, dpA]
  | .int _ => by simp [anyD, dpD, dpA]
  | .str _ => by simp [anyD, dpD, dpA]
  | .lst xs => by simp only [anyD, dpD, dpA]; rw [dpAL_D]
  | .tup xs => by simp only [anyD, dpD, dpA]; rw [dpAL_D]
  | .dic => by simp [anyD, dpD, dpA]
  | .obj _ _ => by simp [anyD, dpD, dpA]
  | .tag _ _ => by simp [anyD, dpD, dpA]
  | .cel _ => by simp [anyD, dpD, dpA]
theorem dpAL_D : ∀ {xs : List Any}, dpDL (anyDL cl xs) = dpAL xs
  | [] => by simp [anyDL, dpDL, dpAL]
  | x :: xs => by simp only [anyDL, dpDL, dpAL]; rw [dpA_D, dpAL_D]
end
end
/-- two lists of values of any kind compared, where they are equal by shape or place -/
def peqA (xs ys : List Any) : Res Bool := guard (eqAL xs ys = true ∧ dpAL xs ≤ 60) true
section
variable {X : Cx} {T : Bool} {M : Mem} {P : PK'} {E1 : Er → Prop} {cl : OK → Addr × List Str} {Q : Bool → Prop} {xs ys : List Any}
theorem r_eqAL (hu : X.A.units + 64 < cLine) (h : (peqA xs ys).Out Q E1) (hk : ∀ b, Q b → P (.bl b) M) : OP X T (compareOp .Eq) (.lst (xs.map (anyD cl))) (.lst (ys.map (anyD cl))) M P := by
  rw [← anyDL_map, ← anyDL_map]
  exact o_eqLT (eqAL_D (gd h).1.1) (by rw [dpAL_D]; exact (gd h).1.2) hu (hk _ (gd h).2)
theorem r_neAL (hu : X.A.units + 64 < cLine) (h : ((peqA xs ys).bind fun b => .ok !b).Out Q E1) (hk : ∀ b, Q b → P (.bl b) M) : OP X T (compareOp .NotEq) (.lst (xs.map (anyD cl))) (.lst (ys.map (anyD cl))) M P := by
  rw [← anyDL_map, ← anyDL_map]
  have g := gd (ob h)
  exact o_neLT (eqAL_D g.1.1) (by rw [dpAL_D]; exact g.1.2) hu (hk _ g.2)
end
/-! ### what a value of any kind is -/
def AsI : Any → Res Int
  | .int i => .ok i
  | _ => .bad
def AsL : Any → Res (List Any)
  | .lst xs => .ok xs
  | _ => .bad
def AsS : Any → Res Str
  | .str s => .ok s
  | _ => .bad
section
variable {cl : OK → Addr × List Str} {E1 : Er → Prop}
end
/-- a base type's name -/
def tyA : Any → Option String
  | .non => some "NoneType"
  | .bl _ => some "bool"
  | .int _ => some "int"
  | .str _ => some "str"
  | .lst _ => some "list"
  | .tup _ => some "tuple"
  | .dic => some "dict"
  | .obj _ _ => none
  | .tag _ x => tyA x
  | .cel _ => none
/-- the own class -/
def okA : Any → Option OK
  | .obj k _ => some k
  | .tag _ x => okA x
  | _ => none
theorem tyA_D {K : PySem.W.Frag} {M : Mem} {cl : OK → Addr × List Str} : ∀ {a : Any} {t : String}, tyA a = some t → TyD K M (anyD cl a) (.type t)
  | .non, _, h => by cases h; simp only [anyD]; exact .non
  | .bl _, _, h => by cases h; simp only [anyD]; exact .bl
  | .int _, _, h => by cases h; simp only [anyD]; exact .int
  | .str _, _, h => by cases h; simp only [anyD]; exact .str
  | .lst _, _, h => by cases h; simp only [anyD]; exact .lst
  | .tup _, _, h => by cases h; simp only [anyD]; exact .tup
  | .dic, _, h => by cases h; simp only [anyD]; exact .dic0
  | .obj _ _, _, h => by cases h
  | .cel _, _, h => by cases h
  | .tag _ x, _, h => by simp only [anyD]; exact .at (tyA_D (a := x) h)
theorem okA_D' {K : PySem.W.Frag} {M : Mem} {cl : OK → Addr × List Str} : ∀ {a : Any} {k : OK}, ICls K (cl k).1 → okA a = some k → TyD K M (anyD cl a) (.ref (cl k).1)
  | .obj _ _, _, hc, h => by cases h; simp only [anyD]; exact .obj hc
  | .tag _ x, _, hc, h => by simp only [anyD]; exact .at (okA_D' (a := x) hc h)
  | .non, _, _, h => by cases h
  | .bl _, _, _, h => by cases h
  | .int _, _, _, h => by cases h
  | .str _, _, _, h => by cases h
  | .lst _, _, _, h => by cases h
  | .tup _, _, _, h => by cases h
  | .dic, _, _, h => by cases h
  | .cel _, _, _, h => by cases h
theorem tyA_mem : ∀ {a : Any} {u : String}, tyA a = some u → u ∈ ["NoneType", "bool", "int", "str", "list", "tuple", "dict"]
  | .non, _, h => by cases h; simp
  | .bl _, _, h => by cases h; simp
  | .int _, _, h => by cases h; simp
  | .str _, _, h => by cases h; simp
  | .lst _, _, h => by cases h; simp
  | .tup _, _, h => by cases h; simp
  | .dic, _, h => by cases h; simp
  | .obj _ _, _, h => by cases h
  | .cel _, _, h => by cases h
  | .tag _ x, _, h => tyA_mem (a := x) h
/-- isinstance(a, t) for a base type t; pr: the own classes that are there -/
def pisA (pr : OK → Bool) (t : String) (a : Any) : Res Bool := match tyA a with
  | some u => .ok (u == t || (u == "bool" && t == "int"))
  | none => match okA a with
    | some k => guard (pr k = true) false
    | none => .bad
theorem kitA {K : PySem.W.Frag} {t : String} (ht : t ∈ ["bool", "int", "str", "list", "tuple", "dict"]) {u : String} (h : u ∈ ["NoneType", "bool", "int", "str", "list", "tuple", "dict"]) :
    PySem.W.kitOne K (.type u) (.type t) = some (u == t || (u == "bool" && t == "int")) := by
  simp only [List.mem_cons, List.not_mem_nil, or_false] at h ht
  rcases h with rfl | rfl | rfl | rfl | rfl | rfl | rfl <;> rcases ht with rfl | rfl | rfl | rfl | rfl | rfl <;> rfl
section
variable {X : Cx} {M : Mem} {P : PK'} {E1 : Er → Prop} {cl : OK → Addr × List Str} {Q : Bool → Prop} {pr : OK → Bool} {a : Any}
theorem r_isA {t : String} {cv : V} (hc : ClsV cv (.type t)) (hi : ∀ k, pr k = true → ICls X.K (cl k).1) (hs : ∀ k, pr k = true → PySem.W.subIn X.K (.ref (cl k).1) (.type t) = some false) (h : (pisA pr t a).Out Q E1) (hk : ∀ b, Q b → P (.bl b) M)
    (ht : t ∈ ["bool", "int", "str", "list", "tuple", "dict"] := by decide) : BC X (.builtin "isinstance") [anyD cl a, .raw cv] M P := by
  unfold pisA at h
  cases e : tyA a with
  | some u => rw [e] at h; exact c_isi hc (tyA_D e) (kitA ht (tyA_mem e)) (hk _ h)
  | none =>
    rw [e] at h
    cases e2 : okA a with
    | none => rw [e2] at h; exact h.elim
    | some k =>
      rw [e2] at h
      have g := gd h
      have ty : TyD X.K M (anyD cl a) (.ref (cl k).1) := okA_D' (hi k g.1) e2
      exact c_isi hc ty (kit_ty (hs k g.1) (by simp only [List.mem_cons, List.not_mem_nil, or_false] at ht; rcases ht with rfl | rfl | rfl | rfl | rfl | rfl <;> rfl)) (hk _ g.2)
end
section
variable {X : Cx} {T : Bool} {τ : TEnv} {M : Mem} {P : PK'} {E : XKx} {e : Expr} {E1 : Er → Prop} {cl : OK → Addr × List Str} {a : Any} {pos : Pos} {α : Type}
/-- a value seen as one of any kind -/
theorem ex_asA (h : EX X T e τ M (fun d M1 => ∃ d', d = d' ∧ P d' M1) E) : EX X T e τ M P E := h.imp (fun d M1 ⟨_, e, h⟩ => e ▸ h) fun _ _ h => h
/-- {} -/
theorem ex_dicA {f : Addr → Res α} {Q : α → Prop} (h : (Res.all f).Out Q E1) (hk : ∀ q, (f q).Out Q E1 → P (.at q .dic0) M) : EX X T (.Dict [] [] pos) τ M P E := ex_dict0 fun q => hk q (h q)
/-- a made value, told by its place -/
theorem outAll {f : Addr → Res α} {Q : α → Prop} (h : (Res.all f).Out Q E1) : ∀ q, (f q).Out Q E1 := h
end
/-! ### try, as it goes on in one way -/
theorem catN_mono {X : Cx} {k k' : TEnv → Mem → Prop} {R : RK} {x : Exn} {τ : TEnv} {M : Mem} (hk : ∀ τ M, k τ M → k' τ M) : ∀ {ls : List Cl}, catN X k R x τ M ls → catN X k' R x τ M ls
  | [], h => h
  | l :: ls, ⟨b, hb, h1, h0⟩ => ⟨b, hb, fun e => ⟨(h1 e).1, fun a dd oe pn hz hv => ((h1 e).2 a dd oe pn hz hv).imp fun o M2 q => by
      cases o with
      | nx τ => exact hk _ _ q
      | ct τ => exact q
      | bk τ => exact q
      | rt d => exact q
      | ex _ _ => exact q⟩, fun e => catN_mono hk (h0 e)⟩
section
variable {X : Cx} {T : Bool} {τ : TEnv} {M : Mem} {R : RK} {rest body : List Stmt} {pos : Pos} {l₀ : Cl} {ls : List Cl} {α : Type} {E1 : Er → Prop}
/-- how a try's body may end: in J, or by an error of the slots and cells it began with -/
def tryB (ex : Er → Exn) (τ : TEnv) (M : Mem) (J : TEnv → Mem → Prop) (E : Er → Prop) : RK
  | .nx τ', M' => J τ' M'
  | .ex y τ', M' => ∃ x, y = ex x ∧ τ' = τ ∧ M' = M ∧ E x
  | _, _ => False
/-- the same, where what was made on the way is left behind -/
def tryD (ex : Er → Exn) (τ : TEnv) (M : Mem) (J : TEnv → Mem → Prop) (E : Er → Prop) : RK
  | .nx τ', M' => J τ' M'
  | .ex y τ', M' => ∃ A B, M'.Perm (A ++ B) ∧ ∃ x, y = ex x ∧ τ' = τ ∧ A = M ∧ E x
  | _, _ => False
theorem csT {K : PySem.W.Frag} {G H : Hp} {M M0 : Mem} {ex : Er → Exn} {J : TEnv → Mem → Prop} {E : Er → Prop} {D : Ends} {W : WX} (h : CS' K G M H (tryB ex τ M0 J E) D W) : CS' K G M H (tryD ex τ M0 J E) D W := fun o M2 G2 H2 r s h2 => by
  cases o with
  | nx τ => exact h (.nx τ) M2 G2 H2 r s h2
  | rt d => exact r.elim
  | ex x τ => obtain ⟨A, B, pm, r⟩ := r; exact h (.ex x τ) A G2 H2 r (s.perm (List.Perm.refl _) pm).drop (h2.perm pm).drop
  | bk τ => exact r.elim
  | ct τ => exact r.elim
theorem WS.endT {M0 : Mem} {τ0 : TEnv} {ex : Er → Exn} {J : TEnv → Mem → Prop} {E : Er → Prop} {ss : List Stmt} (h : WS X T ss τ M (tryD ex τ0 M0 J E)) : WS X T ss τ M (tryB ex τ0 M0 J E) := .mk fun W tk σ G H hE hH D hR => h.run W tk σ G H hE hH D (csT hR)
theorem tX {ex : Er → Exn} {E : Er → Prop} (L : Mem) {x : Er} (h : E x) : ∃ A B, (L ++ M).Perm (A ++ B) ∧ ∃ x', ex x = ex x' ∧ τ = τ ∧ A = M ∧ E x' := ⟨M, L, List.perm_append_comm, x, rfl, rfl, rfl, h⟩
theorem ws_tryJ (ex : Er → Exn) (J : (α → Prop) → TEnv → Mem → Prop) {mb : Res α} {H : Er → Res α} {Q : α → Prop} (h : (mb.grab H).Out Q E1) (hs : X.stack = X.env :: X.outer) (hf : X.env.frame = some X.env.locals) (hc : ClOk X (l₀ :: ls))
    (hb : mb.Out Q (fun x => (H x).Out Q E1) → ∀ pn xe, PassesOwn (model X.prog X.w) X.A X.env xe → WS (X.tr pn xe) false body τ M (tryD ex τ M (J Q) fun x => (H x).Out Q E1))
    (hx : ∀ x, (H x).Out Q E1 → catN X (J Q) R (ex x) τ M (l₀ :: ls)) (hr : ∀ τ' M', J Q τ' M' → WS X T rest τ' M' R)
    (hN : X.N.Nodup := by first | decide +kernel | exact of_decide_eq_true (by kernel_rfl)) :
    WS X T (.Try body (l₀.hd :: ls.map Cl.hd) [] [] pos :: rest) τ M R := by
  refine ws_tryN hs hf hc (fun pn xe po => (hb (grab_out h) pn xe po).endT.imp ?_) hN
  rintro (τ' | d | τ' | τ' | ⟨y, τ'⟩) M' q
  · exact hr _ _ q
  · exact q.elim
  · exact q.elim
  · exact q.elim
  · obtain ⟨x, rfl, rfl, rfl, q⟩ := q
    exact catN_mono (fun _ _ => hr _ _) (hx x q)
end
/-! ### isinstance to an own class -/
section
variable {X : Cx} {M : Mem} {P : PK'} {E1 : Er → Prop} {cl : OK → Addr × List Str} {Q : Bool → Prop} {su : OK → Option Bool} {a : Any} {D : Addr}
end
end Kh

set_option Elab.async false
set_option linter.all false
set_option maxRecDepth 100000
set_option maxHeartbeats 1000000
namespace Kh
open PySem PySem.Spec L2
open PySem.SeqAt (EqAt RcAt RcNeAt)
/-! ### lists that are told as data or as cells -/
def LsD (M : Mem) (d : Dat) (xs : List Dat) : Prop := d = .lst xs ∨ ∃ q, d = .raw (.ref q) ∧ (q, MC.lst xs) ∈ M
theorem LsD.cell {M : Mem} {q : Addr} {xs ys : List Dat} (e : xs = ys) (h : (q, MC.lst xs) ∈ M) : LsD M (.raw (.ref q)) ys := e ▸ .inr ⟨q, rfl, h⟩
theorem LsD.get {K : PySem.W.Frag} {G H : Hp} {M : Mem} {d : Dat} {xs : List Dat} {v : V} (h : LsD M d xs) (hH : Hst K G M H) (dv : Den K G d v) : ∃ a vs, v = .ref a ∧ H a = some (.lst vs) ∧ DenL K G xs vs := by
  rcases h with rfl | ⟨q, rfl, hm⟩
  · obtain ⟨a, vs, rfl, ga, da⟩ := dv.lst_inv
    exact ⟨a, vs, rfl, hH.sub _ _ ga, da⟩
  · obtain ⟨vs, g1, g2⟩ := hH.mem _ hm
    exact ⟨q, vs, dv.raw_inv, g1, g2⟩
section
variable {X : Cx} {T : Bool} {τ : TEnv} {M : Mem} {P : PK'} {E : XKx} {R : RK} {x y : Dat} {cl : OK → Addr × List Str} {Q : Bool → Prop} {E1 : Er → Prop}
end
end Kh

set_option Elab.async false
set_option linter.all false
set_option maxRecDepth 100000
set_option maxHeartbeats 1000000
namespace Kh
open PySem PySem.Spec L2
open PyProof.Rows (boot_range)
/-! ### ranges with steps of any size -/
section
variable {X : Cx} {tg : Expr}
end
def rng3B (i j c : Int) : Prop := (small62 i ∧ small62 j) ∧ 0 < c ∧ c.natAbs.log2 < 9000
instance {i j c : Int} : Decidable (rng3B i j c) := inferInstanceAs (Decidable (_ ∧ _))
section
variable {X : Cx} {τ : TEnv} {M : Mem} {E : XKx} {a b c tg : Expr} {p pos : Pos} {PI' : List Dat → Mem → (Mem → Prop) → Prop}
end
/-! ### == by an own __eq__, as it is found -/
def EqO (pr : Program) (w : World) (K : PySem.W.Frag) (mg : Str → Option Value) (base : Heap) (A : Around) (x y : Dat) (m : Res Bool) : Prop :=
  ∃ (C fa : Addr) (fd : FuncData) (k : Nat) (ps : List Str) (S : Spc) (t : Value), FnD pr w K mg base k fa fd ps S ∧ Room (k + 1) A ∧ Meth K C "__eq__" fa ∧ PySem.W.findIn K (.ref C) "__ne__" = some (some (.builtin "object.__ne__")) ∧ ICls K C ∧ Binds K fd ps [] ∧
    (∀ M, IsI C "__eq__" M x) ∧ (∀ M, TyD K M y t) ∧ PySem.W.notFirst K C t = true ∧ ∀ (M : Mem) (P' : PK') (E' : XKx), m.Out (fun r => P' (.bl r) M) (fun _ => False) → S [x, y] M P' E'
section
variable {X : Cx} {T : Bool} {M : Mem} {P : PK'} {x y : Dat} {m : Res Bool} {Q : Bool → Prop} {E1 : Er → Prop}
end
end Kh

set_option Elab.async false
set_option linter.all false
set_option maxRecDepth 100000
set_option maxHeartbeats 1000000
namespace Kh
open PySem PySem.Spec L2
open PySem.SeqAt PySem.MeetsSeq PySem.MeetsSeq2 PySem.MeetsSeq3 PySem.SeqRoads2
open PySem.AutoSeq1 (wpAny_loadPart')
/-! ### tuples compared, whose items have an own == -/
section
variable {X : Cx} {T : Bool} {M : Mem} {P : PK'} {α : Type} {f : α → Dat} {me : α → α → Res Bool} {xs ys : List α} {Q1 : Bool → Prop} {E1 : Er → Prop}
end
/-! instances at one place -/
/-! ### tuples joined and cut -/
section
variable {X : Cx} {T : Bool} {M : Mem} {P : PK'} {α : Type} {E1 : Er → Prop}
end
end Kh

set_option Elab.async false
set_option linter.all false
set_option maxRecDepth 100000
set_option maxHeartbeats 1000000
namespace Kh
open PySem PySem.Spec L2
/-! ### bits -/
section
variable {X : Cx} {T : Bool} {M : Mem} {P : PK'} {E1 : Er → Prop} {i j : Int}
end
/-! ### sorted(set(pairs)) -/
def ltP2 (p q : Int × Int) : Prop := p.1 < q.1 ∨ (p.1 = q.1 ∧ p.2 < q.2)
instance {p q : Int × Int} : Decidable (ltP2 p q) := inferInstanceAs (Decidable (_ ∨ _))
section
variable {X : Cx} {T : Bool} {τ : TEnv} {M : Mem} {P : PK'} {E : XKx} {e : Expr} {p1 p2 pos1 pos2 : Pos}
end
/-! ### for x in an instance whose __iter__ gives iter(a tuple of its own) -/
end Kh

set_option Elab.async false
set_option linter.all false
set_option maxRecDepth 100000
set_option maxHeartbeats 1000000
namespace Kh
open PySem PySem.Spec L2
/-! ### [y for x in e for y in x] -/
section
variable {X : Cx} {T : Bool} {tg iter elt tg1 iter1 : Expr} {τ : TEnv} {M : Mem} {E : XKx} {pos : Pos} {vs vs1 : List Nat} {P : PK'}
end
end Kh

set_option Elab.async false
set_option linter.all false
set_option maxRecDepth 100000
set_option maxHeartbeats 1000000
namespace Kh
open PySem PySem.Spec L2
open PySem.SeqAt PySem.MeetsSeq PySem.MeetsSeq2 PySem.MeetsSeq3 PySem.SeqRoads2
open PySem.AutoSeq1 (wpAny_loadPart')
/-! ### lists compared, whose items have an own == -/
section
variable {prog : Program} {w : World} {A : Around} {R : Result → Shared → Prop}
end
section
variable {prog : Program} {w : World} {A : Around} {E : Value → Shared → Prop} {s : Shared}
end
/-- items of a kind with an own ==, as they are compared inside a builtin -/
structure OwnEq (X : Cx) (α : Type) (f : α → Dat) (me : α → α → Res Bool) : Prop where
  el : ∀ x y, EqO X.prog X.w X.K X.mg X.base X.A.in1 (f x) (f y) (me x y)
  isR : ∀ x, isR (f x) = true
  inj : ∀ (G : Hp) x y a, Den X.K G (f x) (.ref a) → Den X.K G (f y) (.ref a) → x = y
  self : ∀ x, me x x = .ok true
section
variable {X : Cx} {T : Bool} {M : Mem} {P : PK'} {α : Type} {f : α → Dat} {me : α → α → Res Bool} {Q1 : Bool → Prop} {E1 : Er → Prop}
theorem LsD.up {K : PySem.W.Frag} {G H G' H' : Hp} {M : Mem} {d : Dat} {xs : List Dat} {a : Addr} (h : LsD M d xs) (hH : Hst K G M H) (hH' : Hst K G' M H') (s : Stp G M H G' M H') (dv : Den K G d (.ref a)) : ∃ vs, H' a = some (.lst vs) ∧ DenL K G' xs vs := by
  obtain ⟨a', vs, e, g1, g2⟩ := h.get hH' (dv.up s.gg)
  cases e
  exact ⟨vs, g1, g2⟩
end
end Kh

set_option Elab.async false
set_option linter.all false
set_option maxRecDepth 100000
set_option maxHeartbeats 1000000
namespace PySem.W
open Lean Elab Tactic Meta PySem PySem.Calls PyProof.Rows
/-! ### own operators with a right side of any other type -/
section
variable {prog : Program} {w : World} {M : Model} {A : Around} {E : Value → Shared → Prop} {s : Shared} {K : Frag} {x C L f : Addr} {h₀ : Heap} {m : Str → Option Value} {ox : Obj} {od : Option Obj} {nm T : String}
end
end PySem.W
namespace Kh
open PySem PySem.Spec L2
section
variable {X : Cx} {T : Bool} {τ : TEnv} {M : Mem} {P : PK'} {E : XKx} {a b e : Expr} {pos : Pos} {k : Nat} {fa C : Addr} {fd : FuncData} {ps : List Str} {S : Spc} {W : WX} {op : Operator} {cl : OK → Addr × List Str} {pr : OK → Bool}
end
end Kh

set_option Elab.async false
set_option linter.all false
set_option maxRecDepth 100000
set_option maxHeartbeats 1000000
namespace Kh
open PySem PySem.Spec L2
/-! ### a comprehension's list as a cell -/
section
variable {X : Cx} {T : Bool} {tg iter elt e a b c : Expr} {τ : TEnv} {M : Mem} {E : XKx} {pos p : Pos} {vs : List Nat} {P : PK'}
end
section
variable {X : Cx} {T : Bool} {tg iter elt : Expr} {τ : TEnv} {M : Mem} {pos : Pos} {P : PK'} {rest : List Stmt} {R : RK}
end
/-! ### tuple(a list that is told as data or as a cell) -/
section
variable {X : Cx} {M : Mem} {P : PK'} {α : Type}
end
end Kh

set_option Elab.async false
set_option linter.all false
set_option maxRecDepth 100000
set_option maxHeartbeats 1000000
namespace Kh
open PySem PySem.Spec L2
/-! ### not None, as it stands -/
def isNoneD : Dat → Bool
  | .non => true
  | .raw (.ref _) => false
  | .raw _ => true
  | _ => false
theorem isNoneD_ne {K : PySem.W.Frag} {G : Hp} {d : Dat} {v : V} (h : isNoneD d = false) (dv : Den K G d v) : decide (v = V.non) = false := by
  by_cases e : ∃ u, d = .raw u
  · obtain ⟨u, rfl⟩ := e
    have := dv.raw_inv
    subst this
    cases v <;> first | rfl | cases h
  · rw [den_isN dv (fun u q => e ⟨u, q⟩)]
    cases d <;> first | rfl | cases h
section
variable {X : Cx} {T : Bool} {M : Mem} {P : PK'}
theorem o_isNA {x : Dat} (hn : isNoneD x = false) (h : P (.bl false) M) : OP X T (compareOp .Is) x .non M P := op_of op_isN fun G H v u hH dx dy Q hP => ⟨dy.non_inv, by rw [isNoneD_ne hn dx]; exact hP _ _ _ _ _ h Stp.refl hH den_bl⟩
end
end Kh

set_option Elab.async false
set_option linter.all false
set_option maxRecDepth 100000
set_option maxHeartbeats 1000000
namespace Kh
open PySem PySem.Spec L2
open PySem.SeqAt (EqAt RcAt RcNeAt)
/-- a new list stands as a cell -/
theorem cell_new {K : PySem.W.Frag} {G H : Hp} {M : Mem} {p : Addr} {ds : List Dat} {vs : List V} (h1 : Hst K G M H) (hp' : H p = none) (dvs : DenL K G ds vs) : Stp G M H G ((p, .lst ds) :: M) (upd H p (.lst vs)) ∧ Hst K G ((p, .lst ds) :: M) (upd H p (.lst vs)) := by
  have nM : p ∉ adr M := fun z => h1.there p z hp'
  have ha : adr ((p, MC.lst ds) :: M) = p :: adr M := rfl
  have kp : ∀ b o, H b = some o → (upd H p (.lst vs)) b = some o := fun b o e => by rw [upd_ne (ne_of_none e hp')]; exact e
  refine ⟨⟨Same.refl _, fun b o _ e => kp b o e, fun _ _ _ g => g, fun b hb => ?_⟩, ⟨fun b o e => kp b o (h1.sub b o e), fun c hc => ?_, fun b hb => ?_, ?_⟩⟩
  · rw [ha] at hb
    rcases List.mem_cons.mp hb with rfl | hb
    · exact .inr hp'
    · exact .inl hb
  · rcases List.mem_cons.mp hc with rfl | hc
    · exact ⟨vs, upd_same, dvs⟩
    · exact (h1.mem c hc).up (Same.refl _) fun b hb o e => kp b o e
  · rw [ha] at hb
    rcases List.mem_cons.mp hb with rfl | hb
    · exact h1.sub.free hp'
    · exact h1.out b hb
  · rw [ha]
    exact List.nodup_cons.mpr ⟨nM, h1.nd⟩
section
variable {X : Cx} {T : Bool} {M : Mem} {P : PK'}
/-- list(a list), the new one as a cell -/
theorem c_listNew {d : Dat} {ds : List Dat} (l : LsD M d ds) (h : ∀ q, P (.raw (.ref q)) ((q, .lst ds) :: M)) : BC X (.type "list") [d] M P := bc_of call_list_of fun G H vs hH dv Q hP => by
  obtain ⟨v, rfl, dd⟩ := one_inv dv
  obtain ⟨p, us, rfl, g, dl⟩ := l.get hH dd
  refine ⟨p, us, rfl, .inl (SqL.of g), fun r hr => ?_⟩
  obtain ⟨s2, h2⟩ := cell_new hH hr dl
  exact hP _ _ _ _ _ (h r) s2 h2 den_raw
end
end Kh

set_option Elab.async false
set_option linter.all false
set_option maxRecDepth 100000
set_option maxHeartbeats 1000000
namespace Kh
open PySem PySem.Spec L2
/-! ### [y for x in e for y in x] as a value -/
section
variable {X : Cx} {T : Bool} {tg iter elt tg1 iter1 : Expr} {τ : TEnv} {M : Mem} {E : XKx} {pos : Pos} {P : PK'}
end
/-! ### max(a list of whole numbers) -/
section
variable {X : Cx} {T : Bool} {M : Mem} {P : PK'} {E1 : Er → Prop}
end
/-! ### sorted(set(pairs)) -/
/-! ### a call of what an expression tells -/
section
variable {X : Cx} {τ : TEnv} {M : Mem} {P : PK'} {E : XKx} {cal e : Expr} {es : List Expr} {pos : Pos}
end
end Kh

set_option Elab.async false
set_option linter.all false
set_option maxRecDepth 100000
set_option maxHeartbeats 1000000
namespace Kh
open PySem PySem.Spec L2
section
variable {X : Cx} {T : Bool} {M : Mem} {P : PK'}
end
end Kh
namespace Kh
open PySem PySem.Spec L2
section
variable {X : Cx} {T : Bool} {τ : TEnv} {M : Mem} {P : PK'} {E : XKx} {e : Expr} {p1 p2 pos1 pos2 : Pos}
end
end Kh

set_option Elab.async false
set_option linter.all false
set_option maxRecDepth 100000
set_option maxHeartbeats 1000000
namespace Kh
open PySem PySem.Spec L2
/-! ### calls with keywords, with defaults -/
/-- where a parameter's value comes from -/
inductive Src where
  | p (i : Nat) | k (i : Nat) | d (x : Dat) (v : V) (u : Value)
def Src.Ok (K : PySem.W.Frag) : Src → Prop
  | .d x v u => (∀ G, Den K G x v) ∧ RelV v u
  | _ => True
theorem hk1 {K : PySem.W.Frag} {D : Addr} {x : Str} {v : Value} (h : PySem.W.nsIn K D x = some (some v)) : ∀ q ∈ [(x, v)], PySem.W.nsIn K D q.1 = some (some q.2) := fun q hq => by
  rw [List.mem_singleton.mp hq]; exact h
section
variable {X : Cx} {T : Bool} {τ : TEnv} {M : Mem} {P : PK'} {E : XKx} {e : Expr} {es : List Expr} {pos p kpos : Pos} {k n : Nat} {f : Addr} {fd : FuncData} {ps ks : List Str} {S : Spc} {x : Str} {nm : Option Str} {kws : List Keyword} {t : List Src}
end
/-! ### a list backwards; list(range(..)); in a list of data -/
section
variable {X : Cx} {T : Bool} {τ : TEnv} {M : Mem} {P : PK'} {E : XKx} {e a b : Expr} {pos p p1 p2 p3 : Pos} {kk : Nat} {α : Type} {E1 : Er → Prop}
end
end Kh

set_option Elab.async false
set_option linter.all false
set_option maxRecDepth 100000
set_option maxHeartbeats 1000000
namespace Kh
open PySem PySem.Spec L2
/-! ### new lists as cells: comprehensions, list(xs), xs[::-1] -/
section
variable {X : Cx} {T : Bool} {tg iter elt e a : Expr} {τ : TEnv} {M : Mem} {E : XKx} {pos p p1 p2 p3 : Pos} {kk : Nat} {P : PK'} {α : Type} {E1 : Er → Prop}
end
/-! the joining rules, whatever is wanted behind -/
section
variable {X : Cx} {T : Bool} {τ : TEnv} {M : Mem} {P : PK'} {E : XKx} {t e : Expr} {p q rest : List Stmt} {pos : Pos} {α σ : Type} {E1 : Er → Prop} {R : RK}
theorem exJQ {m : Res α} (f : α → Dat) {Q : α → Prop} (h : m.Out Q E1) (he : ∀ Q : α → Prop, m.Out Q E1 → EX X T e τ M (fun d M1 => M1 = M ∧ ∃ v, d = f v ∧ Q v) E) (hk : ∀ v, Q v → P (f v) M) : EX X T e τ M P E := exJ f h (he Q) hk
theorem etJQ {m : Res Bool} {Q : Bool → Prop} {Pb : Bool → Mem → Prop} (h : m.Out Q E1) (he : ∀ Q : Bool → Prop, m.Out Q E1 → ET X T e τ M (fun k M1 => M1 = M ∧ Q k) E) (hk : ∀ v, Q v → Pb v M) : ET X T e τ M Pb E := etJ h (he Q) hk
theorem ws_ifQ {m : Res σ} {Q : σ → Prop} (JJ : (σ → Prop) → TEnv → Mem → Prop) (h : m.Out Q E1)
    (hif : ∀ Q : σ → Prop, m.Out Q E1 → ET X T t τ M (fun k M1 => (k = true → WS X T p τ M1 (thenR (JJ Q) R)) ∧ (k = false → WS X T q τ M1 (thenR (JJ Q) R))) (fun x M1 => R (.ex x τ) M1))
    (hk : ∀ τ' M', JJ Q τ' M' → WS X T rest τ' M' R) : WS X T (.If t p q pos :: rest) τ M R := ws_ifJ JJ h (hif Q) hk
end
section
variable {α β γ : Type} {m : Res α} {Q S : α → Prop} {E1 : Er → Prop} {E : XKx} {M : Mem} {ex : Er → Exn}
/-- a value with new lists in it -/
theorem outG (h : m.Out Q E1) (hk : ∀ r, Q r → S r) (hx : ∀ x, E1 x → E (ex x) M) : m.Out S (fun x => UpP E (ex x) M) := out_mono h hk fun x z => UpP.mk (hx x z)
end
/-! ### == of data, a list's cell among them -/
section
variable {X : Cx} {T : Bool} {M : Mem} {P : PK'} {τ : Type} {E : τ → Dat} [DecidableEq τ] {E1 : Er → Prop} {da db : Dat}
end
/-- isinstance of what may be None -/
theorem c_isiO {X : Cx} {M : Mem} {P : PK'} {α : Type} {e : α → Dat} {o : Option α} {cv : V} {t u : Value} (hc : ClsV cv u) (ht : ∀ x, TyD X.K M (e x) t) (hk : PySem.W.kitOne X.K t u = some true) (hn : PySem.W.kitOne X.K (.type "NoneType") u = some false) (h : P (.bl o.isSome) M) : BC X (.builtin "isinstance") [optD e o, .raw cv] M P := by
  cases o with
  | none => exact c_isi (k := false) hc .non hn h
  | some x => exact c_isi (k := true) hc (ht x) hk h
/-- a field stored, the cell behind A -/
theorem ws_fldA {X : Cx} {T : Bool} {τ : TEnv} {M : Mem} {R : RK} {value o : Expr} {f : Str} {pos pos' : Pos} {rest : List Stmt} (h : EX X false value τ M (fun d M1 => EX X false o τ M1 (fun od M2 => ∃ q C dx fs fs' A B, M2 = A ++ (q, MC.ins C dx fs) :: B ∧ od = .raw (.ref q) ∧ Cls X.K C ∧ NoAttr X.K C f ∧ fs.length < 1000 ∧ putD f d fs = fs' ∧ WS X T rest τ (A ++ (q, .ins C dx fs') :: B) R) (fun x M2 => R (.ex x τ) M2)) (fun x M1 => R (.ex x τ) M1))
    (hs : swapsWith value (some (.Attribute o f pos')) pos.line X.env = pure false := by rfl) : WS X T (.Assign [.Attribute o f pos'] value pos :: rest) τ M R := .mk fun W tk σ G H hE hH D hR => by
  refine ws_step (ps_fld (pe_W (e := o)) (pe_W (e := value)) hs) ?_
  refine h.run W tk σ G H hE hH _ ?_ (ex_out hR hE)
  intro d M1 v G1 H1 ho s1 h1 dv
  refine ho.run W tk σ G1 H1 (hE.up s1.gg) h1 _ ?_ ((ex_out hR hE).step s1)
  rintro od M2 ov G2 H2 ⟨q, C, dx, fs, fs', A, B, rfl, rfl, hc, hn, hl, hf, hw⟩ s2 h2 dov
  subst hf
  obtain ⟨vs, g1, g2, g3⟩ := h2.mem _ (List.mem_append_right _ List.mem_cons_self)
  have hcell : MH X.K G2 (upd H2 q (.ins C dx (putF f v vs))) (q, .ins C dx (putD f d fs)) := by
    have ne : dx ≠ q := fun z => by rw [z, g1] at g2; cases g2
    exact ⟨_, upd_same, by rw [upd_ne ne]; exact g2, denF_put (dv.up s2.gg) g3⟩
  obtain ⟨s3, h3⟩ := hst_put (c' := .ins C dx (putD f d fs)) (H2 := upd H2 q (.ins C dx (putF f v vs))) h2 rfl (fun b hb => upd_ne hb) hcell
  exact ⟨q, C, dx, vs, dov.raw_inv, g1, hc, hn, by rw [g3.length]; exact hl, hw.run W tk σ G2 _ ((hE.up s1.gg).up s2.gg) h3 D (hR.step ((s1.trans s2).trans s3))⟩
/-- None is None; a list is no None -/
theorem o_isNN {X : Cx} {T : Bool} {M : Mem} {P : PK'} (h : P (.bl true) M) : OP X T (compareOp .Is) .non .non M P := o_isN (fun u => by simp) h
end Kh

set_option Elab.async false
set_option linter.all false
set_option maxRecDepth 100000
set_option maxHeartbeats 1000000
namespace Kh
open PySem PySem.Spec L2
/-! ### sorted(a list of ints) -/
section
variable {X : Cx} {M : Mem} {P : PK'} {E1 : Er → Prop}
end
end Kh

set_option Elab.async false
set_option linter.all false
set_option maxRecDepth 100000
set_option maxHeartbeats 1000000
namespace Kh
open PySem PySem.Spec L2
open PySem.W (EachIs dataLe AllAlike Sortable)
/-- what an option holds; nothing is told where it holds nothing -/
def punO {α : Type} : Option α → Res α
  | some a => .ok a
  | none => .bad
@[elab_as_elim] theorem punE {α β : Type} {k : α → Res β} {P : β → Prop} {E : Er → Prop} {motive : Option α → Prop} (o : Option α) (h : ((punO o).bind k).Out P E) (hk : ∀ a, (k a).Out P E → motive (some a)) : motive o := by
  cases o with
  | none => exact h.elim
  | some a => exact hk a h
@[simp] theorem punO_some {α : Type} {a : α} : punO (some a) = .ok a := rfl
/-! ### sorted(a list of data), any length -/
section
variable {X : Cx} {M : Mem} {P : PK'} {E1 : Er → Prop} {α : Type} {e : α → Dat} [DecidableEq α]
end
/-! ### dicts by texts that change -/
section
variable {X : Cx} {T : Bool} {τ : TEnv} {M : Mem} {P : PK'} {E : XKx} {e o i value : Expr} {rest : List Stmt} {R : RK} {pos p pos' cpos apos tpos : Pos} {E1 : Er → Prop} {β : Type}
end
/-! ### x += e, x -= e of ints -/
section
variable {X : Cx} {T : Bool} {τ : TEnv} {M : Mem} {e : Expr} {rest : List Stmt} {R : RK} {pos p : Pos} {x : Str} {i : Int}
end
end Kh

set_option Elab.async false
set_option linter.all false
set_option maxRecDepth 100000
set_option maxHeartbeats 1000000
namespace Kh
open PySem PySem.Spec L2
/-! ### list(range(a, b)), len(set(ints)) -/
section
variable {X : Cx} {T : Bool} {τ : TEnv} {M : Mem} {P : PK'} {E : XKx} {e a b : Expr} {pos p p1 p2 p3 q : Pos} {E1 : Er → Prop}
end
end Kh

set_option Elab.async false
set_option linter.all false
set_option maxRecDepth 100000
set_option maxHeartbeats 4000000
namespace Kh
open PySem PySem.Spec PyProof.Rows L2
/-! ### sorted(set(ints)): a set of a list's ints, as HandS.SetFor has it of a tuple's -/
/-- the set that set() makes -/
abbrev eS (w : World) : Obj := { cls := .type "set", dict := none, data := .set #[] 0 (.fresh 0 0 (!w.params.followText "set-order")) }
/-- the heap behind it -/
abbrev hS (w : World) (h : Heap) : Heap := h.push (eS w)
section
variable {P : Program} {w : World} {A : Around} {E : Value → Shared → Prop} {s : Shared}
end
section
variable {X : Cx} {T : Bool} {τ : TEnv} {M : Mem} {P : PK'} {E : XKx} {e a b : Expr} {pos p p1 p2 p3 q : Pos} {E1 : Er → Prop}
end
end Kh

set_option Elab.async false
set_option linter.all false
set_option maxRecDepth 100000
set_option maxHeartbeats 1000000
namespace Kh
open PySem PySem.Spec L2
/-! ### min(a list of ints) -/
section
variable {X : Cx} {T : Bool} {M : Mem} {P : PK'} {E1 : Er → Prop}
end
end Kh

set_option Elab.async false
set_option linter.all false
set_option maxRecDepth 100000
set_option maxHeartbeats 1000000
namespace Kh
open PySem PySem.Spec L2
/-! ### x += e by an own __iadd__ -/
section
variable {X : Cx} {T : Bool} {τ : TEnv} {M : Mem} {e : Expr} {rest ss : List Stmt} {R : RK} {pos p : Pos} {x : Str} {k : Nat} {fa C : Addr} {fd : FuncData} {ps : List Str} {S : Spc}
def rIO (X : Cx) (C : Addr) (S : Spc) : R2 := fun x y H Q => ∃ a dx fs, x = .ref a ∧ H a = some (.ins C dx fs) ∧ toSp X.K S [x, y] H (fun z H' => (∃ c, z = .ref c) ∧ Q z H') (fun _ _ _ => False)
theorem iop_own (F : FnD X.prog X.w X.K X.mg X.base k fa fd ps S) (hr : Room k X.A) (hm : Meth X.K C "__iadd__" fa) (hb : Binds X.K fd ps []) (hc : PySem.W.selfFirst X.K C = true) : OpR X (inplaceOp .Add) (rIO X C S) := by
  intro pins s σ H x y v u Q I rx ry h
  obtain ⟨a, dx, fs, rfl, ea, h⟩ := h
  obtain rfl : v = Value.ref a := rx
  obtain ⟨mA, J, _⟩ := ins_get I.hok ea
  obtain ⟨od, J, _⟩ := J.look
  obtain ⟨m, hF⟩ := I.fr
  refine PySem.W.ksp_inplace hF I.ok.mod.kin J hc hm.1 hm.2 ?_
  refine wpAny_mono (run_d (dsv := []) (dvs := []) (W := fun _ _ _ _ => False) (us := [.ref a, u]) (vs := [.ref a, y]) F hr hb .nil takes0 I (.cons rfl (.cons ry .nil)) (by rw [List.append_nil]; exact h)) (fun r s' q => ?_) fun _ _ z => z
  obtain ⟨z, H', I', rz, ⟨c, rfl⟩, q⟩ := q
  obtain rfl : r = Value.ref c := rz
  exact ⟨.ref c, H', I', rfl, q⟩
theorem ws_augOwn {d0 : Dat} (F : FnD X.prog X.w X.K X.mg X.base k fa fd ps S) (hr : Room k X.A) (hm : Meth X.K C "__iadd__" fa) (hb : Binds X.K fd ps []) (hc : PySem.W.selfFirst X.K C = true) (h0 : τ[ixIn X.N x]? = some (some d0))
    (h : EX X false e τ M (fun d M1 => IsI C "__eq__" M1 d0 ∧ AP S [d0, d] M1 (fun r M2 => (∃ q, r = .raw (.ref q)) ∧ WS X T rest (τ.set (ixIn X.N x) (some r)) M2 R) E0') (fun x M1 => R (.ex x τ) M1))
    (hi : X.N[ixIn X.N x]? = some x := by rfl) (hx : Loc X.env.scope x := by first | exact Or.inl rfl | exact Or.inr rfl) (hN : X.N.Nodup := by first | decide +kernel | exact of_decide_eq_true (by kernel_rfl)) (hf : X.fn x = true ∨ X.env.scope.names.lookup x = some .local := by first | exact .inl rfl | exact .inr rfl | assumption) :
    WS X T (.AugAssign (.Name x p) .Add e pos :: rest) τ M R := .mk fun W tk σ G H hE hH D hR => tWSs_len fun hl => by
  refine ws_step (ps_aug hN hi hx pe_W (iop_own F hr hm hb hc) hf) ?_
  obtain ⟨v, e1, d1⟩ := hE _ _ h0
  refine ⟨v, e1, ?_⟩
  refine h.run W tk σ G H hE hH _ (fun d M2 u G2 H2 ⟨hI, ha⟩ s h2 dv => ?_) (ex_out hR hE)
  have hlt : ixIn X.N x < σ.length := by rw [hl]; exact (List.getElem?_eq_some_iff.mp hi).1
  have dv1 := d1.up s.gg
  obtain ⟨a, dxa, fs, rfl, ea, _⟩ := hI.get h2 dv1
  refine ⟨a, dxa, fs, rfl, ea, ap_toSp ha (.cons dv1 (.cons dv .nil)) h2 (fun r M3 z G3 H3 ⟨⟨q, er⟩, hw⟩ s3 h3 dz => ?_) noX⟩
  subst er
  have ez := dz.raw_inv
  subst ez
  exact ⟨⟨q, rfl⟩, hw.run W tk _ G3 H3 (((hE.up s.gg).up s3.gg).set hlt den_raw) h3 D (hR.step (s.trans s3))⟩
/-- an instance with a list of its own, both are changed no more -/
theorem freezeH {K : PySem.W.Frag} {G H : Hp} {q dx q2 C : Addr} {n1 n2 : Str} {d1 : Dat} {xs : List Dat} {M3 : Mem} (h : Hst K G ((q, .ins C dx [(n1, d1), (n2, .raw (.ref q2))]) :: (q2, .lst xs) :: M3) H) :
    ∃ G', Stp G ((q, .ins C dx [(n1, d1), (n2, .raw (.ref q2))]) :: (q2, .lst xs) :: M3) H G' M3 H ∧ Hst K G' M3 H ∧ Den K G' (.obj C [n1, n2] [d1, .lst xs]) (.ref q) := by
  have pm : ((q, MC.ins C dx [(n1, d1), (n2, .raw (.ref q2))]) :: (q2, .lst xs) :: M3).Perm ((q2, .lst xs) :: (q, MC.ins C dx [(n1, d1), (n2, .raw (.ref q2))]) :: M3) := List.Perm.swap _ _ _
  obtain ⟨G1, s1, h1, e1⟩ := freezeL (h.perm pm)
  obtain ⟨G2, s2, h2, e2⟩ := freezeI h1
  refine ⟨G2, ((s1.perm pm.symm (List.Perm.refl _)).trans s2), h2, ?_⟩
  have e1 := e1.up s2.gg
  obtain ⟨a, dx', vs, ea, g1, g2, dl⟩ := e2.obj_inv
  simp only [List.map_cons, List.map_nil] at dl g1
  obtain ⟨v1, r1, rfl, dv1, t1⟩ := dl.cons_inv
  obtain ⟨v2, r2, rfl, dv2, t2⟩ := t1.cons_inv
  obtain rfl := t2.nil_inv
  have := dv2.raw_inv
  subst this
  simp only [Den]
  exact ⟨a, dx', [v1, .ref q2], ea, g1, g2, .cons dv1 (.cons e1 .nil)⟩
end
section
variable {M : Mem} {P : PK'} {E : XKx} {S : Spc} {α : Type} {E1 : Er → Prop}
theorem perm2 (A : Mem) {c1 c2 : Addr × MC} {B : Mem} : (A ++ c1 :: c2 :: B).Perm ([c1, c2] ++ (A ++ B)) := List.perm_append_comm_assoc A [c1, c2] B
theorem frz2 (A : Mem) {c1 c2 : Addr × MC} {B : Mem} : (A ++ c1 :: c2 :: B).Perm (c2 :: c1 :: (A ++ B)) := (perm2 A).trans (List.Perm.swap _ _ _)
/-- two cells behind A are handed to the def -/
theorem ap2 {ds : List Dat} (A : Mem) {c1 c2 : Addr × MC} {B : Mem} (h : S ds [c1, c2] (UpC A B P) (UpC A B E)) : AP S ds (A ++ c1 :: c2 :: B) P E := ⟨_, _, perm2 A, h⟩
theorem outH2 {m : Res α} {A B : Mem} {f : α → Dat} {c1 c2 : α → Addr × MC} {ex : Er → Exn} {Q : α → Prop} (h : m.Out Q E1) (hk : ∀ r, Q r → P (f r) (A ++ c1 r :: c2 r :: B)) (hx : ∀ x, E1 x → False) :
    m.Out (fun r => UpC A B P (f r) [c1 r, c2 r]) (fun x => UpC A B E (ex x) M) := out_mono h (fun r q => ⟨_, (perm2 A).symm, hk r q⟩) fun x q => (hx x q).elim
end
/-! ### a history that is changed is lent to a def that wants data -/
mutual
/-- data in which no list and no instance of C stands -/
def Pln (C : Addr) : Dat → Prop
  | .scr _ | .lst _ => False
  | .tup ds => PlnL C ds
  | .obj D _ ds => D ≠ C ∧ PlnL C ds
  | .xn _ _ _ ds => PlnL C ds
  | .at _ d => Pln C d
  | _ => True
def PlnL (C : Addr) : List Dat → Prop
  | [] => True
  | d :: ds => Pln C d ∧ PlnL C ds
end
/-- the places that are lent -/
structure Lent (C : Addr) (B : List Addr) (G : Hp) : Prop where
  k : ∀ b ∈ B, (∃ dx vs, G b = some (.ins C dx vs) ∧ dx ∈ B) ∨ (∃ q ∈ B, G b = some (.own q)) ∨ ∃ us, G b = some (.lst us)
open Classical in
noncomputable def cutB (B : List Addr) (G : Hp) : Hp := fun b => if b ∈ B then none else G b
section
variable {K : PySem.W.Frag} {G H : Hp} {C : Addr} {B : List Addr}
theorem cutB_out {b : Addr} (h : b ∉ B) : cutB B G b = G b := if_neg h
mutual
theorem pln_den (h : Lent C B G) : ∀ (d : Dat) (v : V), Pln C d → Den K G d v → Den K (cutB B G) d v
  | .non, _, _, q => by simpa [Den] using q
  | .bl _, _, _, q => by simpa [Den] using q
  | .int _, _, _, q => by simpa [Den] using q
  | .str _, _, _, q => by simpa [Den] using q
  | .raw _, _, _, q => by simpa [Den] using q
  | .dic0, _, _, q => by
    simp only [Den] at q ⊢
    obtain ⟨a, e, g⟩ := q
    refine ⟨a, e, ?_⟩
    rw [cutB_out (fun hb => ?_)]; exact g
    rcases h.k a hb with ⟨_, _, z, _⟩ | ⟨_, _, z⟩ | ⟨_, z⟩ <;> (rw [g] at z; cases z)
  | .scr _, _, p, _ => by simp only [Pln] at p
  | .lst _, _, p, _ => by simp only [Pln] at p
  | .tup ds, v, p, q => by
    simp only [Den, Pln] at p q ⊢
    obtain ⟨a, vs, e, s, t⟩ := q
    refine ⟨a, vs, e, ?_, plnL_den h ds vs p t⟩
    rw [cutB_out (fun hb => ?_)]; exact s
    rcases h.k a hb with ⟨_, _, z, _⟩ | ⟨_, _, z⟩ | ⟨_, z⟩ <;> (rw [s] at z; cases z)
  | .obj D ns ds, v, p, q => by
    simp only [Den, Pln] at p q ⊢
    obtain ⟨a, dx, vs, e, s, s2, t⟩ := q
    have ha : a ∉ B := fun hb => by
      rcases h.k a hb with ⟨_, _, z, _⟩ | ⟨_, _, z⟩ | ⟨_, z⟩
      · rw [s] at z
        injection z with z
        injection z with z1 _ _
        exact p.1 z1
      · rw [s] at z; cases z
      · rw [s] at z; cases z
    refine ⟨a, dx, vs, e, ?_, ?_, plnL_den h ds vs p.2 t⟩
    · rw [cutB_out ha]; exact s
    · rw [cutB_out (fun hb => ?_)]; exact s2
      rcases h.k dx hb with ⟨_, _, z, _⟩ | ⟨q', hq', z⟩ | ⟨_, z⟩
      · rw [s2] at z; cases z
      · rw [s2] at z
        injection z with z
        injection z with z
        exact ha (by rw [z]; exact hq')
      · rw [s2] at z; cases z
  | .xn a dd ns ds, v, p, q => by
    simp only [Den, Pln] at p q ⊢
    obtain ⟨vs, e, s, t⟩ := q
    refine ⟨vs, e, ?_, plnL_den h ds vs p t⟩
    rw [cutB_out (fun hb => ?_)]; exact s
    rcases h.k dd hb with ⟨_, _, z, _⟩ | ⟨_, _, z⟩ | ⟨_, z⟩ <;> (rw [s] at z; cases z)
  | .at a d, v, p, q => by
    simp only [Den, Pln] at p q ⊢
    exact ⟨q.1, pln_den h d v p q.2⟩
theorem plnL_den (h : Lent C B G) : ∀ (ds : List Dat) (vs : List V), PlnL C ds → DenL K G ds vs → DenL K (cutB B G) ds vs
  | [], _, _, q => by simpa [DenL] using q
  | d :: ds, vs, p, q => by
    simp only [DenL, PlnL] at p q ⊢
    obtain ⟨v, r, e, s, t⟩ := q
    exact ⟨v, r, e, pln_den h d v p.1 s, plnL_den h ds r p.2 t⟩
end
end
/-- what is lent are histories and lists -/
def LentM (C : Addr) (M : Mem) (B : List Addr) : Prop := ∀ b ∈ B, (∃ q dx fs, (q, MC.ins C dx fs) ∈ M ∧ q ∈ B ∧ dx ∈ B ∧ (b = q ∨ b = dx)) ∨ ∃ ds, (b, MC.lst ds) ∈ M
open Classical in
section
variable {K : PySem.W.Frag} {G G2 H H2 : Hp} {C : Addr} {B : List Addr} {M M1 Mp Mq : Mem}
theorem Hst.right {A B : Mem} (h : Hst K G (A ++ B) H) : Hst K G B H := (h.perm List.perm_append_comm).left
theorem Hst.apart {A B : Mem} (h : Hst K G (A ++ B) H) {b : Addr} (ha : b ∈ adr A) (hb : b ∈ adr B) : False := by
  have := h.nd
  rw [adr_append] at this
  exact (List.nodup_append.mp this).2.2 b ha b hb rfl
end
end Kh

set_option Elab.async false
set_option linter.all false
set_option maxRecDepth 100000
set_option maxHeartbeats 1000000
namespace Kh
open PySem PySem.Spec L2
/-! ### for x in an instance whose __iter__ gives iter(a list of its own) -/
/-! ### xs.clear(), xs a cell -/
section
variable {X : Cx} {T : Bool} {τ : TEnv} {M B : Mem} {P : PK'} {E : XKx} {o : Expr} {q : Addr} {pos apos tpos : Pos}
end
/-! ### lending a history to a def, a method, an operator -/
section
variable {X : Cx} {T : Bool} {τ : TEnv} {M : Mem} {P : PK'} {E : XKx} {E1 : Er → Prop} {C D : Addr} {B B1 B2 : List Addr} {α β : Type} {S : Spc} {k : Nat} {fa : Addr} {fd : FuncData} {ps : List Str} {m : Str} {es : List Expr}
theorem LentM.app (h1 : LentM C M B1) (h2 : LentM C M B2) : LentM C M (B1 ++ B2) := fun b hb => by
  rcases List.mem_append.mp hb with hb | hb
  · exact (h1 b hb).imp (fun ⟨q, dx, fs, a, b, c, d⟩ => ⟨q, dx, fs, a, List.mem_append_left _ b, List.mem_append_left _ c, d⟩) id
  · exact (h2 b hb).imp (fun ⟨q, dx, fs, a, b, c, d⟩ => ⟨q, dx, fs, a, List.mem_append_right _ b, List.mem_append_right _ c, d⟩) id
end
end Kh

set_option Elab.async false
set_option linter.all false
set_option maxRecDepth 100000
set_option maxHeartbeats 1000000
namespace Kh
open PySem PySem.Spec L2
/-! ### several cells handed to a def -/
section
variable {X : Cx} {T : Bool} {τ : TEnv} {M : Mem} {P : PK'} {E : XKx} {E1 : Er → Prop} {α β : Type} {S : Spc}
end
/-! ### xs.pop(), xs a cell -/
section
variable {X : Cx} {T : Bool} {τ : TEnv} {M B : Mem} {P : PK'} {E : XKx} {E1 : Er → Prop} {o : Expr} {q : Addr} {pos apos tpos : Pos} {α : Type}
end
/-! ### is of bools -/
section
variable {X : Cx} {T : Bool} {M : Mem} {P : PK'} {a b : Bool}
end
/-! ### a cell against [] -/
section
open PySem.SeqAt (EqAt RcAt RcNeAt)
variable {X : Cx} {T : Bool} {M : Mem} {P : PK'} {q : Addr} {α : Type}
end
/-! ### C(k = v, ..) -/
section
variable {X : Cx} {T : Bool} {τ : TEnv} {M : Mem} {P : PK'} {E : XKx} {e : Expr} {es : List Expr} {pos p kpos : Pos} {k n : Nat} {f C : Addr} {fd : FuncData} {ps ks : List Str} {S : Spc} {x : Str} {nm : Option Str} {kws : List Keyword} {t : List Src}
end
end Kh

set_option Elab.async false
set_option linter.all false
set_option maxRecDepth 100000
set_option maxHeartbeats 1000000
namespace Kh
open PySem PySem.Spec L2
/-! ### o.f += e by an own __iadd__ of what the field holds -/
section
variable {X : Cx} {T : Bool} {τ : TEnv} {M : Mem} {o e : Expr} {rest ss : List Stmt} {R : RK} {pos tpos : Pos} {f : Str} {k : Nat} {fa C : Addr} {fd : FuncData} {ps : List Str} {S : Spc}
end
/-! ### an instance with a list of its own is given back as data -/
section
variable {X : Cx} {T : Bool} {τ : TEnv} {M : Mem} {e : Expr} {P : PK'} {E : XKx} {C : Addr}
def FrzHP (C : Addr) (P : PK') : PK' := fun d M => ∃ q dx q2 n1 n2 d1 xs M3, d = .raw (.ref q) ∧ M.Perm ((q, .ins C dx [(n1, d1), (n2, .raw (.ref q2))]) :: (q2, .lst xs) :: M3) ∧ P (.obj C [n1, n2] [d1, .lst xs]) M3
theorem ex_frzH (h : EX X T e τ M (FrzHP C P) E) : EX X T e τ M P E := .mk fun W tk σ G H hE hH Q hP hX =>
  h.run W tk σ G H hE hH Q (fun d M2 v G2 H2 ⟨q, dx, q2, n1, n2, d1, xs, M3, ed, pm, hp⟩ s h2 dv => by
    subst ed
    obtain ⟨G', s3, h3, d3⟩ := freezeH (h2.perm pm)
    rw [dv.raw_inv]
    exact hP _ _ _ _ _ hp ((s.perm (List.Perm.refl _) pm).trans s3) h3 d3) hX
end
/-! ### copiers: their cells, by their addresses -/
section
variable (CC CH : Addr) (fD : Str → Dat) (q : Addr)
end
/-! ### loops over places, told by what lies there -/
section
variable {X : Cx} {T : Bool} {τ : TEnv} {M : Mem} {P : PK'} {E : XKx} {t e iter tg : Expr} {p q body rest : List Stmt} {pos : Pos} {α β σ ρ : Type} {E1 : Er → Prop} {R : RK}
end
/-! ### a store's copiers, handed as a whole; one of them -/
section
variable {X : Cx} {T : Bool} {τ : TEnv} {M : Mem} {P : PK'} {E : XKx} {α β : Type} {E1 : Er → Prop} {S : Spc}
variable {CC CH : Addr} {fD : Str → Dat} {q : Addr}
end
/-! ### o.m(e, .., k = v, ..), and keyword-only parameters left out -/
section
variable {X : Cx} {T : Bool} {τ : TEnv} {M : Mem} {P : PK'} {E : XKx} {e o : Expr} {es : List Expr} {pos p apos : Pos} {m : Str} {n : Nat} {ks : List Str} {kws : List Keyword} {t : List Src}
end
end Kh

set_option Elab.async false
set_option linter.all false
set_option maxRecDepth 100000
set_option maxHeartbeats 1000000
namespace Kh
open PySem PySem.Spec L2
/-! ### a value of any kind that must be of some kind, in the middle of a chain -/
def AsT : Any → Res (List Any)
  | .tup xs => .ok xs
  | _ => .bad
section
variable {β : Type} {cl : OK → Addr × List Str} {P : β → Prop} {E : Er → Prop} {a : Any}
@[elab_as_elim] theorem asI_at {k : Int → Res β} {motive : Dat → Prop} (d : Dat) (e : d = anyD cl a) (h : ((AsI a).bind k).Out P E) (hk : ∀ i, (k i).Out P E → motive (.int i)) : motive d := by
  subst e
  cases a <;> first | exact h.elim | (simp only [anyD]; exact hk _ h)
@[elab_as_elim] theorem asS_at {k : Str → Res β} {motive : Dat → Prop} (d : Dat) (e : d = anyD cl a) (h : ((AsS a).bind k).Out P E) (hk : ∀ i, (k i).Out P E → motive (.str i)) : motive d := by
  subst e
  cases a <;> first | exact h.elim | (simp only [anyD]; exact hk _ h)
@[elab_as_elim] theorem asL_at {k : List Any → Res β} {motive : Dat → Prop} (d : Dat) (e : d = anyD cl a) (h : ((AsL a).bind k).Out P E) (hk : ∀ i, (k i).Out P E → motive (lstD (anyD cl) i)) : motive d := by
  subst e
  cases a <;> first | exact h.elim | (simp only [anyD, anyDL_map]; exact hk _ h)
@[elab_as_elim] theorem asT_at {k : List Any → Res β} {motive : Dat → Prop} (d : Dat) (e : d = anyD cl a) (h : ((AsT a).bind k).Out P E) (hk : ∀ i, (k i).Out P E → motive (vtpD (anyD cl) i)) : motive d := by
  subst e
  cases a <;> first | exact h.elim | (simp only [anyD, anyDL_map]; exact hk _ h)
end
section
variable {X : Cx} {T : Bool} {M : Mem} {P : PK'} {cl : OK → Addr × List Str} {a : Any}
end
/-! ### x += e by an own __iadd__ that refuses -/
section
variable {X : Cx} {T : Bool} {τ : TEnv} {M : Mem} {e : Expr} {rest ss : List Stmt} {R : RK} {pos p : Pos} {x : Str} {k : Nat} {fa C : Addr} {fd : FuncData} {ps : List Str} {S : Spc}
end
/-! ### lists compared, item by item, by any way -/
open PySem.SeqAt PySem.MeetsSeq PySem.MeetsSeq2 PySem.MeetsSeq3 PySem.SeqRoads2
open PySem.AutoSeq1 (wpAny_loadPart')
section
variable {X : Cx} {T : Bool} {M : Mem} {P : PK'} {α : Type} {f : α → Dat} {me : α → α → Res Bool} {Q1 : Bool → Prop} {E1 : Er → Prop}
end
section
variable {X : Cx} {T : Bool} {M : Mem} {P : PK'} {β : Type} {cl : OK → Addr × List Str} {dec : Any → Option β} {fo : β → Dat} {mo : β → β → Res Bool} {Q1 : Bool → Prop} {E1 : Er → Prop}
end
section
variable {X : Cx} {T : Bool} {M : Mem} {P : PK'} {cl : OK → Addr × List Str} {a : Any}
end
/-! ### [f, g, ..][i](e, ..): a table of defs, defaults by keyword too -/
section
variable {X : Cx} {τ : TEnv} {M : Mem} {P : PK'} {E : XKx} {cal e : Expr} {es : List Expr} {pos : Pos}
end
/-- one of some ways -/
def ptab {β : Type} : Int → List (Res β) → Res β
  | _, [] => .bad
  | i, m :: ms => cond (decide (i = 0)) m (ptab (i - 1) ms)
@[elab_as_elim] theorem ptab_c {β : Type} {P : β → Prop} {E : Er → Prop} {m : Res β} {ms : List (Res β)} {motive : Int → Prop} (i : Int) (h : (ptab i (m :: ms)).Out P E) (h0 : m.Out P E → motive 0) (hs : ∀ j, (ptab j ms).Out P E → motive (j + 1)) : motive i := by
  have h : (cond (decide (i = 0)) m (ptab (i - 1) ms)).Out P E := h
  by_cases e : i = 0
  · subst e; exact h0 h
  · rw [decide_eq_false e] at h
    have := hs (i - 1) h
    rw [Int.sub_add_cancel] at this
    exact this
theorem ex_tagB {X : Cx} {T : Bool} {τ : TEnv} {M : Mem} {P : PK'} {E : XKx} {e : Expr} (hk : EX X T e τ M (fun d M1 => isR d = true ∧ ∃ d', d = d' ∧ ∀ q, P (.at q d') M1) E) : EX X T e τ M P E :=
  ex_tag (hk.imp (fun d M1 ⟨hr, d', e, h⟩ => ⟨hr, fun q => by subst e; exact h q⟩) fun _ _ h => h)
end Kh

set_option Elab.async false
set_option linter.all false
set_option maxRecDepth 100000
set_option maxHeartbeats 1000000
namespace Kh
open PySem PySem.Spec L2
/-! ### keywords alone, of functions and of methods -/
section
variable {X : Cx} {T : Bool} {τ : TEnv} {M : Mem} {P : PK'} {E : XKx} {e o : Expr} {es : List Expr} {pos p apos : Pos} {k n : Nat} {f : Addr} {fd : FuncData} {ps ks : List Str} {S : Spc} {x m : Str} {kws : List Keyword} {t : List Src}
end
/-! ### options compared, where what they hold has an own == -/
section
variable {X : Cx} {T : Bool} {M : Mem} {P : PK'} {α : Type} {f : α → Dat} {me : α → α → Res Bool} {Q1 : Bool → Prop} {E1 : Er → Prop}
end
end Kh

set_option Elab.async false
set_option linter.all false
set_option maxRecDepth 100000
set_option maxHeartbeats 1000000
namespace Kh
open PySem PySem.Spec L2
/-! ### numbers and texts -/
def pstrI (i : Int) : Res Str := guard (i.natAbs.log2 < 1920) (toString i : String)
/-- int(a text); nothing is told where it is no number -/
def pintS (z : Str) : Res Int := match PySem.intText? z with
  | some n => guard (z.length ≤ 640) n
  | none => .bad
def psplit (a b : Str) : Res (List Str) := guard ((b.length == 0) = false ∧ a.length + 2 ≤ sizeLine) (Txt.split a b)
def ppart (a b : Str) : Res (Str × Str × Str) := guard ((b.length == 0) = false ∧ a.length ≤ sizeLine) (Txt.partition a b)
section
variable {X : Cx} {T : Bool} {τ : TEnv} {M : Mem} {P : PK'} {E : XKx} {o e : Expr} {es : List Expr} {apos tpos pos : Pos} {E1 : Er → Prop}
theorem c_strI {i : Int} {Q : Str → Prop} (h : (pstrI i).Out Q E1) (hk : ∀ z, Q z → P (.str z) M) : BC X (.type "str") [.int i] M P := bc_of call_str_int fun G H vs hH dv Q' hP => by
  obtain ⟨v, rfl, d⟩ := one_inv dv
  have g := gd h
  exact ⟨i, by rw [d.int_inv], g.1, hP _ _ _ _ _ (hk _ g.2) Stp.refl hH den_str⟩
theorem c_intS {z : Str} {Q : Int → Prop} (h : (pintS z).Out Q E1) (hk : ∀ n, Q n → P (.int n) M) : BC X (.type "int") [.str z] M P := bc_of call_int_str fun G H vs hH dv Q' hP => by
  obtain ⟨v, rfl, d⟩ := one_inv dv
  unfold pintS at h
  cases e : PySem.intText? z with
  | none => rw [e] at h; exact h.elim
  | some n =>
    rw [e] at h
    have g := gd h
    exact ⟨z, n, by rw [d.str_inv], e, g.1, hP _ _ _ _ _ (hk _ g.2) Stp.refl hH den_int⟩
theorem ex_split (h : EX X T o τ M (fun d M1 => TyB X.K M1 d "str" ∧ EA X T (e :: es) τ M1 (fun ds M2 => BMr X "str.split" d ds M2 P) E) E)
    (hbase : attributeBase o "split" X.env (eval o X.env) = eval o X.env := by rfl)
    (hfew : ((backTo tpos (starEach (e :: es) X.env)).all (fun x => !x.1) && (backToKw tpos (keywordEach [] X.env)).all (fun x => x.1.isSome) && decide ((e :: es).length + ([] : List Keyword).length + (if ([] : List Keyword).isEmpty then 0 else 1) < 30)) = true := by rfl)
    (hline : (apos.endLine == tpos.line) = true := by rfl) (hs : starEach (e :: es) X.env = (false, eval e X.env) :: starEach es X.env := by rfl) (hplain : (backTo tpos (starEach es X.env)).any (·.1) = false := by rfl) :
    EX X T (.Call (.Attribute o "split" apos) (e :: es) [] tpos) τ M P E := ex_bm PySem.F.plainAttrs_str F.slot_str_split F.type_str_split h hbase hfew hline hs hplain
theorem r_split {a b : Str} {Q : List Str → Prop} (h : (psplit a b).Out Q E1) (hk : ∀ r, Q r → P (lstD Dat.str r) M) : BMr X "str.split" (.str a) [.str b] M P :=
  ⟨_, mt_split, fun G H v vs hH dv dvs Q' hP => by
    obtain ⟨u, rfl, d2⟩ := one_inv dvs
    have g := gd h
    refine ⟨a, b, dv.str_inv, by rw [d2.str_inv], g.1.1, g.1.2, fun p hp => ?_⟩
    obtain ⟨s2, h2⟩ := Stp.new (o := .lst ((Txt.split a b).map V.str)) hH hp
    exact hP _ _ _ _ _ (hk _ g.2) s2 h2 (den_lst upd_same denL_strs)⟩
theorem ex_part (h : EX X T o τ M (fun d M1 => TyB X.K M1 d "str" ∧ EA X T (e :: es) τ M1 (fun ds M2 => BMr X "str.partition" d ds M2 P) E) E)
    (hbase : attributeBase o "partition" X.env (eval o X.env) = eval o X.env := by rfl)
    (hfew : ((backTo tpos (starEach (e :: es) X.env)).all (fun x => !x.1) && (backToKw tpos (keywordEach [] X.env)).all (fun x => x.1.isSome) && decide ((e :: es).length + ([] : List Keyword).length + (if ([] : List Keyword).isEmpty then 0 else 1) < 30)) = true := by rfl)
    (hline : (apos.endLine == tpos.line) = true := by rfl) (hs : starEach (e :: es) X.env = (false, eval e X.env) :: starEach es X.env := by rfl) (hplain : (backTo tpos (starEach es X.env)).any (·.1) = false := by rfl) :
    EX X T (.Call (.Attribute o "partition" apos) (e :: es) [] tpos) τ M P E := ex_bm PySem.F.plainAttrs_str F.slot_str_partition F.type_str_partition h hbase hfew hline hs hplain
theorem r_part {a b : Str} {Q : Str × Str × Str → Prop} (h : (ppart a b).Out Q E1) (hk : ∀ r, Q r → P (tripD Dat.str Dat.str Dat.str r) M) : BMr X "str.partition" (.str a) [.str b] M P :=
  ⟨_, mt_partition, fun G H v vs hH dv dvs Q' hP => by
    obtain ⟨u, rfl, d2⟩ := one_inv dvs
    have g := gd h
    refine ⟨a, b, dv.str_inv, by rw [d2.str_inv], g.1.1, g.1.2, fun p hp => ?_⟩
    obtain ⟨s2, h2⟩ := Stp.new (o := .tup [.str (Txt.partition a b).1, .str (Txt.partition a b).2.1, .str (Txt.partition a b).2.2]) hH hp
    exact hP _ _ _ _ _ (hk _ g.2) s2 h2 (den_tup upd_same (.cons den_str (.cons den_str (.cons den_str .nil))))⟩
theorem c_isiOF {α : Type} {e : α → Dat} {o : Option α} {cv : V} {t u : Value} (hc : ClsV cv u) (ht : ∀ x, TyD X.K M (e x) t) (hk : PySem.W.kitOne X.K t u = some false) (hn : PySem.W.kitOne X.K (.type "NoneType") u = some false) (h : P (.bl false) M) : BC X (.builtin "isinstance") [optD e o, .raw cv] M P := by
  cases o with
  | none => exact c_isi (k := false) hc .non hn h
  | some x => exact c_isi (k := false) hc (ht x) hk h
end
end Kh

set_option Elab.async false
set_option linter.all false
set_option maxRecDepth 100000
set_option maxHeartbeats 2000000
namespace Kh
open PySem PySem.Spec L2
open PySem.W (Frag ksFn)
def top (i : Nat) : Stmt := PySem.Challenge.pw_keptholes_k81_texts_that_are_none.main.body.getD i (.Pass ⟨0, 0, 0, 0⟩)
abbrev s_is_whole : Stmt := top 10
abbrev N_is_whole : List Str := ["value"]
abbrev P_is_whole : List Str := ["value"]
theorem sc_is_whole : FnScope N_is_whole P_is_whole (defScope s_is_whole) := ⟨rfl, rfl, rfl, by decide +kernel, rfl, by decide +kernel, by decide +kernel⟩
abbrev s_check_least : Stmt := top 11
abbrev N_check_least : List Str := ["value", "least"]
abbrev P_check_least : List Str := ["value", "least"]
theorem sc_check_least : FnScope N_check_least P_check_least (defScope s_check_least) := ⟨rfl, rfl, rfl, by decide +kernel, rfl, by decide +kernel, by decide +kernel⟩
abbrev s_are_cells : Stmt := top 15
abbrev N_are_cells : List Str := ["value", "cell"]
abbrev P_are_cells : List Str := ["value"]
theorem sc_are_cells : FnScope N_are_cells P_are_cells (defScope s_are_cells) := ⟨rfl, rfl, rfl, by decide +kernel, rfl, by decide +kernel, by decide +kernel⟩
abbrev s_is_content : Stmt := top 16
abbrev N_is_content : List Str := ["value", "cell"]
abbrev P_is_content : List Str := ["value"]
theorem sc_is_content : FnScope N_is_content P_is_content (defScope s_is_content) := ⟨rfl, rfl, rfl, by decide +kernel, rfl, by decide +kernel, by decide +kernel⟩
abbrev s_check_file : Stmt := top 18
abbrev N_check_file : List Str := ["value"]
abbrev P_check_file : List Str := ["value"]
theorem sc_check_file : FnScope N_check_file P_check_file (defScope s_check_file) := ⟨rfl, rfl, rfl, by decide +kernel, rfl, by decide +kernel, by decide +kernel⟩
abbrev s_are_steps : Stmt := top 25
abbrev N_are_steps : List Str := ["value", "step"]
abbrev P_are_steps : List Str := ["value"]
theorem sc_are_steps : FnScope N_are_steps P_are_steps (defScope s_are_steps) := ⟨rfl, rfl, rfl, by decide +kernel, rfl, by decide +kernel, by decide +kernel⟩
abbrev s_is_write : Stmt := top 28
abbrev N_is_write : List Str := ["value", "length"]
abbrev P_is_write : List Str := ["value", "length"]
theorem sc_is_write : FnScope N_is_write P_is_write (defScope s_is_write) := ⟨rfl, rfl, rfl, by decide +kernel, rfl, by decide +kernel, by decide +kernel⟩
abbrev s_check_write : Stmt := top 29
abbrev N_check_write : List Str := ["value", "length"]
abbrev P_check_write : List Str := ["value", "length"]
theorem sc_check_write : FnScope N_check_write P_check_write (defScope s_check_write) := ⟨rfl, rfl, rfl, by decide +kernel, rfl, by decide +kernel, by decide +kernel⟩
abbrev s_number_in : Stmt := top 34
abbrev N_number_in : List Str := ["word", "sign"]
abbrev P_number_in : List Str := ["word"]
theorem sc_number_in : FnScope N_number_in P_number_in (defScope s_number_in) := ⟨rfl, rfl, rfl, by decide +kernel, rfl, by decide +kernel, by decide +kernel⟩
abbrev s_step_in : Stmt := top 35
abbrev N_step_in : List Str := ["line", "word", "space", "digits", "size"]
abbrev P_step_in : List Str := ["line"]
theorem sc_step_in : FnScope N_step_in P_step_in (defScope s_step_in) := ⟨rfl, rfl, rfl, by decide +kernel, rfl, by decide +kernel, by decide +kernel⟩
abbrev s_read_script : Stmt := top 36
abbrev N_read_script : List Str := ["text", "steps", "number", "line", "step"]
abbrev P_read_script : List Str := ["text"]
theorem sc_read_script : FnScope N_read_script P_read_script (defScope s_read_script) := ⟨rfl, rfl, rfl, by decide +kernel, rfl, by decide +kernel, by decide +kernel⟩
abbrev s_write_in : Stmt := top 37
abbrev N_write_in : List Str := ["line", "length", "word", "space", "text", "found"]
abbrev P_write_in : List Str := ["line", "length"]
theorem sc_write_in : FnScope N_write_in P_write_in (defScope s_write_in) := ⟨rfl, rfl, rfl, by decide +kernel, rfl, by decide +kernel, by decide +kernel⟩
abbrev s_read_history : Stmt := top 38
abbrev N_read_history : List Str := ["text", "lines", "found", "number", "line", "write"]
abbrev P_read_history : List Str := ["text"]
theorem sc_read_history : FnScope N_read_history P_read_history (defScope s_read_history) := ⟨rfl, rfl, rfl, by decide +kernel, rfl, by decide +kernel, by decide +kernel⟩
abbrev s_law_spring : Stmt := top 40
abbrev N_law_spring : List Str := ["script", "at", "cell", "great", "high", "low", "held", "turn"]
abbrev P_law_spring : List Str := ["script", "at"]
theorem sc_law_spring : FnScope N_law_spring P_law_spring (defScope s_law_spring) := ⟨rfl, rfl, rfl, by decide +kernel, rfl, by decide +kernel, by decide +kernel⟩
abbrev s_law_sip : Stmt := top 41
abbrev N_law_sip : List Str := ["spring", "many", "digit"]
abbrev P_law_sip : List Str := ["spring", "many"]
theorem sc_law_sip : FnScope N_law_sip P_law_sip (defScope s_law_sip) := ⟨rfl, rfl, rfl, by decide +kernel, rfl, by decide +kernel, by decide +kernel⟩
abbrev s_law_cells : Stmt := top 42
abbrev N_law_cells : List Str := ["spring", "length", "signs", "at"]
abbrev P_law_cells : List Str := ["spring", "length"]
theorem sc_law_cells : FnScope N_law_cells P_law_cells (defScope s_law_cells) := ⟨rfl, rfl, rfl, by decide +kernel, rfl, by decide +kernel, by decide +kernel⟩
abbrev s_law_text : Stmt := top 43
abbrev N_law_text : List Str := ["spring", "length", "signs", "at"]
abbrev P_law_text : List Str := ["spring", "length"]
theorem sc_law_text : FnScope N_law_text P_law_text (defScope s_law_text) := ⟨rfl, rfl, rfl, by decide +kernel, rfl, by decide +kernel, by decide +kernel⟩
abbrev s_law_writes : Stmt := top 44
abbrev N_law_writes : List Str := ["spring", "length", "most", "found", "turn", "begin", "most_cells", "size"]
abbrev P_law_writes : List Str := ["spring", "length", "most"]
theorem sc_law_writes : FnScope N_law_writes P_law_writes (defScope s_law_writes) := ⟨rfl, rfl, rfl, by decide +kernel, rfl, by decide +kernel, by decide +kernel⟩
abbrev s_law_spot : Stmt := top 46
abbrev N_law_spot : List Str := ["way", "value", "found", "e"]
abbrev P_law_spot : List Str := ["way", "value"]
theorem sc_law_spot : FnScope N_law_spot P_law_spot (defScope s_law_spot) := ⟨rfl, rfl, rfl, by decide +kernel, rfl, by decide +kernel, by decide +kernel⟩
abbrev s_law_steps : Stmt := top 47
abbrev N_law_steps : List Str := ["spring", "lines", "turn", "word"]
abbrev P_law_steps : List Str := ["spring"]
theorem sc_law_steps : FnScope N_law_steps P_law_steps (defScope s_law_steps) := ⟨rfl, rfl, rfl, by decide +kernel, rfl, by decide +kernel, by decide +kernel⟩
abbrev s_law_no_steps : Stmt := top 48
abbrev N_law_no_steps : List Str := ["line", "bad"]
abbrev P_law_no_steps : List Str := ["line"]
theorem sc_law_no_steps : FnScope N_law_no_steps P_law_no_steps (defScope s_law_no_steps) := ⟨rfl, rfl, rfl, by decide +kernel, rfl, by decide +kernel, by decide +kernel⟩
abbrev s_law_no_writes : Stmt := top 49
abbrev N_law_no_writes : List Str := ["size", "bad"]
abbrev P_law_no_writes : List Str := ["size"]
theorem sc_law_no_writes : FnScope N_law_no_writes P_law_no_writes (defScope s_law_no_writes) := ⟨rfl, rfl, rfl, by decide +kernel, rfl, by decide +kernel, by decide +kernel⟩
abbrev s_law_all_told : Stmt := top 50
abbrev N_law_all_told : List Str := ["spring", "way", "lines", "first", "bad", "line", "k", "behind", "text"]
abbrev P_law_all_told : List Str := ["spring", "way", "lines", "first", "bad"]
theorem sc_law_all_told : FnScope N_law_all_told P_law_all_told (defScope s_law_all_told) := ⟨rfl, rfl, rfl, by decide +kernel, rfl, by decide +kernel, by decide +kernel⟩
abbrev s_law : Stmt := top 51
abbrev N_law : List Str := ["script", "at", "spring", "lines", "cells", "writes", "rows", "head", "value", "begin", "text"]
abbrev P_law : List Str := ["script"]
theorem sc_law : FnScope N_law P_law (defScope s_law) := ⟨rfl, rfl, rfl, by decide +kernel, rfl, by decide +kernel, by decide +kernel⟩
abbrev s_File_init : Stmt := inClass (top 17) 0
abbrev N_File_init : List Str := ["self", "cells"]
abbrev P_File_init : List Str := ["self", "cells"]
theorem sc_File_init : FnScope N_File_init P_File_init (defScope s_File_init) := ⟨rfl, rfl, rfl, by decide +kernel, rfl, by decide +kernel, by decide +kernel⟩
abbrev s_File_len : Stmt := inClass (top 17) 4
abbrev N_File_len : List Str := ["self"]
abbrev P_File_len : List Str := ["self"]
theorem sc_File_len : FnScope N_File_len P_File_len (defScope s_File_len) := ⟨rfl, rfl, rfl, by decide +kernel, rfl, by decide +kernel, by decide +kernel⟩
abbrev s_Keep_init : Stmt := inClass (top 22) 0
abbrev N_Keep_init : List Str := ["self", "size"]
abbrev P_Keep_init : List Str := ["self", "size"]
theorem sc_Keep_init : FnScope N_Keep_init P_Keep_init (defScope s_Keep_init) := ⟨rfl, rfl, rfl, by decide +kernel, rfl, by decide +kernel, by decide +kernel⟩
abbrev s_Lean_init : Stmt := inClass (top 23) 0
abbrev N_Lean_init : List Str := ["self", "size"]
abbrev P_Lean_init : List Str := ["self", "size"]
theorem sc_Lean_init : FnScope N_Lean_init P_Lean_init (defScope s_Lean_init) := ⟨rfl, rfl, rfl, by decide +kernel, rfl, by decide +kernel, by decide +kernel⟩
abbrev s_Dig_init : Stmt := inClass (top 24) 0
abbrev N_Dig_init : List Str := ["self", "size"]
abbrev P_Dig_init : List Str := ["self", "size"]
theorem sc_Dig_init : FnScope N_Dig_init P_Dig_init (defScope s_Dig_init) := ⟨rfl, rfl, rfl, by decide +kernel, rfl, by decide +kernel, by decide +kernel⟩
abbrev s_Script_init : Stmt := inClass (top 26) 0
abbrev N_Script_init : List Str := ["self", "steps", "rows"]
abbrev P_Script_init : List Str := ["self", "steps"]
theorem sc_Script_init : FnScope N_Script_init P_Script_init (defScope s_Script_init) := ⟨rfl, rfl, rfl, by decide +kernel, rfl, by decide +kernel, by decide +kernel⟩
abbrev s_History_init : Stmt := inClass (top 31) 0
abbrev N_History_init : List Str := ["self", "file", "writes", "rows", "row"]
abbrev P_History_init : List Str := ["self", "file", "writes"]
theorem sc_History_init : FnScope N_History_init P_History_init (defScope s_History_init) := ⟨rfl, rfl, rfl, by decide +kernel, rfl, by decide +kernel, by decide +kernel⟩
abbrev s_History_iadd : Stmt := inClass (top 31) 5
abbrev N_History_iadd : List Str := ["self", "write"]
abbrev P_History_iadd : List Str := ["self", "write"]
theorem sc_History_iadd : FnScope N_History_iadd P_History_iadd (defScope s_History_iadd) := ⟨rfl, rfl, rfl, by decide +kernel, rfl, by decide +kernel, by decide +kernel⟩
abbrev si_InvalidFile : Stmt := inClass (top 3) 0
abbrev si_InvalidNumber : Stmt := inClass (top 4) 0
abbrev si_InvalidWrite : Stmt := inClass (top 7) 0
abbrev si_InvalidText : Stmt := inClass (top 8) 0
structure Prg (K : Frag) (mg : Str → Option Value) where
  n_bool : mg "bool" = none
  n_enumerate : mg "enumerate" = none
  n_int : mg "int" = none
  n_isinstance : mg "isinstance" = none
  n_len : mg "len" = none
  n_list : mg "list" = none
  n_min : mg "min" = none
  n_range : mg "range" = none
  n_str : mg "str" = none
  n_super : mg "super" = none
  n_tuple : mg "tuple" = none
  tg_SIGNS : Tok
  g_SIGNS : mg "SIGNS" = some (.str "abcdefghijklmnopqrstuvwxyz" tg_SIGNS)
  tg_DIGITS : Tok
  g_DIGITS : mg "DIGITS" = some (.str "0123456789" tg_DIGITS)
  C_File : Addr
  mc_File : mg "File" = some (.ref C_File)
  C_Step : Addr
  mc_Step : mg "Step" = some (.ref C_Step)
  C_Full : Addr
  mc_Full : mg "Full" = some (.ref C_Full)
  C_Keep : Addr
  mc_Keep : mg "Keep" = some (.ref C_Keep)
  C_Lean : Addr
  mc_Lean : mg "Lean" = some (.ref C_Lean)
  C_Dig : Addr
  mc_Dig : mg "Dig" = some (.ref C_Dig)
  C_Script : Addr
  mc_Script : mg "Script" = some (.ref C_Script)
  C_History : Addr
  mc_History : mg "History" = some (.ref C_History)
  f_is_whole : Addr
  d_is_whole : FuncData
  F_is_whole : Fun K "is_whole" "is_whole" s_is_whole f_is_whole d_is_whole
  b_is_whole : Binds K d_is_whole P_is_whole []
  m_is_whole : mg "is_whole" = some (.ref f_is_whole)
  f_check_least : Addr
  d_check_least : FuncData
  F_check_least : Fun K "check_least" "check_least" s_check_least f_check_least d_check_least
  b_check_least : Binds K d_check_least P_check_least []
  m_check_least : mg "check_least" = some (.ref f_check_least)
  f_are_cells : Addr
  d_are_cells : FuncData
  F_are_cells : Fun K "are_cells" "are_cells" s_are_cells f_are_cells d_are_cells
  b_are_cells : Binds K d_are_cells P_are_cells []
  m_are_cells : mg "are_cells" = some (.ref f_are_cells)
  f_is_content : Addr
  d_is_content : FuncData
  F_is_content : Fun K "is_content" "is_content" s_is_content f_is_content d_is_content
  b_is_content : Binds K d_is_content P_is_content []
  m_is_content : mg "is_content" = some (.ref f_is_content)
  f_check_file : Addr
  d_check_file : FuncData
  F_check_file : Fun K "check_file" "check_file" s_check_file f_check_file d_check_file
  b_check_file : Binds K d_check_file P_check_file []
  m_check_file : mg "check_file" = some (.ref f_check_file)
  f_are_steps : Addr
  d_are_steps : FuncData
  F_are_steps : Fun K "are_steps" "are_steps" s_are_steps f_are_steps d_are_steps
  b_are_steps : Binds K d_are_steps P_are_steps []
  m_are_steps : mg "are_steps" = some (.ref f_are_steps)
  f_is_write : Addr
  d_is_write : FuncData
  F_is_write : Fun K "is_write" "is_write" s_is_write f_is_write d_is_write
  b_is_write : Binds K d_is_write P_is_write []
  m_is_write : mg "is_write" = some (.ref f_is_write)
  f_check_write : Addr
  d_check_write : FuncData
  F_check_write : Fun K "check_write" "check_write" s_check_write f_check_write d_check_write
  b_check_write : Binds K d_check_write P_check_write []
  m_check_write : mg "check_write" = some (.ref f_check_write)
  f_number_in : Addr
  d_number_in : FuncData
  F_number_in : Fun K "number_in" "number_in" s_number_in f_number_in d_number_in
  b_number_in : Binds K d_number_in P_number_in []
  m_number_in : mg "number_in" = some (.ref f_number_in)
  f_step_in : Addr
  d_step_in : FuncData
  F_step_in : Fun K "step_in" "step_in" s_step_in f_step_in d_step_in
  b_step_in : Binds K d_step_in P_step_in []
  m_step_in : mg "step_in" = some (.ref f_step_in)
  f_read_script : Addr
  d_read_script : FuncData
  F_read_script : Fun K "read_script" "read_script" s_read_script f_read_script d_read_script
  b_read_script : Binds K d_read_script P_read_script []
  m_read_script : mg "read_script" = some (.ref f_read_script)
  f_write_in : Addr
  d_write_in : FuncData
  F_write_in : Fun K "write_in" "write_in" s_write_in f_write_in d_write_in
  b_write_in : Binds K d_write_in P_write_in []
  m_write_in : mg "write_in" = some (.ref f_write_in)
  f_read_history : Addr
  d_read_history : FuncData
  F_read_history : Fun K "read_history" "read_history" s_read_history f_read_history d_read_history
  b_read_history : Binds K d_read_history P_read_history []
  m_read_history : mg "read_history" = some (.ref f_read_history)
  f_law_spring : Addr
  d_law_spring : FuncData
  F_law_spring : Fun K "_law_spring" "_law_spring" s_law_spring f_law_spring d_law_spring
  b_law_spring : Binds K d_law_spring P_law_spring []
  m_law_spring : mg "_law_spring" = some (.ref f_law_spring)
  f_law_sip : Addr
  d_law_sip : FuncData
  F_law_sip : Fun K "_law_sip" "_law_sip" s_law_sip f_law_sip d_law_sip
  b_law_sip : Binds K d_law_sip P_law_sip []
  m_law_sip : mg "_law_sip" = some (.ref f_law_sip)
  f_law_cells : Addr
  d_law_cells : FuncData
  F_law_cells : Fun K "_law_cells" "_law_cells" s_law_cells f_law_cells d_law_cells
  b_law_cells : Binds K d_law_cells P_law_cells []
  m_law_cells : mg "_law_cells" = some (.ref f_law_cells)
  f_law_text : Addr
  d_law_text : FuncData
  F_law_text : Fun K "_law_text" "_law_text" s_law_text f_law_text d_law_text
  b_law_text : Binds K d_law_text P_law_text []
  m_law_text : mg "_law_text" = some (.ref f_law_text)
  f_law_writes : Addr
  d_law_writes : FuncData
  F_law_writes : Fun K "_law_writes" "_law_writes" s_law_writes f_law_writes d_law_writes
  b_law_writes : Binds K d_law_writes P_law_writes []
  m_law_writes : mg "_law_writes" = some (.ref f_law_writes)
  f_law_spot : Addr
  d_law_spot : FuncData
  F_law_spot : Fun K "_law_spot" "_law_spot" s_law_spot f_law_spot d_law_spot
  b_law_spot : Binds K d_law_spot P_law_spot []
  m_law_spot : mg "_law_spot" = some (.ref f_law_spot)
  f_law_steps : Addr
  d_law_steps : FuncData
  F_law_steps : Fun K "_law_steps" "_law_steps" s_law_steps f_law_steps d_law_steps
  b_law_steps : Binds K d_law_steps P_law_steps []
  m_law_steps : mg "_law_steps" = some (.ref f_law_steps)
  f_law_no_steps : Addr
  d_law_no_steps : FuncData
  F_law_no_steps : Fun K "_law_no_steps" "_law_no_steps" s_law_no_steps f_law_no_steps d_law_no_steps
  b_law_no_steps : Binds K d_law_no_steps P_law_no_steps []
  m_law_no_steps : mg "_law_no_steps" = some (.ref f_law_no_steps)
  f_law_no_writes : Addr
  d_law_no_writes : FuncData
  F_law_no_writes : Fun K "_law_no_writes" "_law_no_writes" s_law_no_writes f_law_no_writes d_law_no_writes
  b_law_no_writes : Binds K d_law_no_writes P_law_no_writes []
  m_law_no_writes : mg "_law_no_writes" = some (.ref f_law_no_writes)
  f_law_all_told : Addr
  d_law_all_told : FuncData
  F_law_all_told : Fun K "_law_all_told" "_law_all_told" s_law_all_told f_law_all_told d_law_all_told
  b_law_all_told : Binds K d_law_all_told P_law_all_told []
  m_law_all_told : mg "_law_all_told" = some (.ref f_law_all_told)
  f_law : Addr
  d_law : FuncData
  F_law : Fun K "law" "law" s_law f_law d_law
  f_File_init : Addr
  d_File_init : FuncData
  F_File_init : FunV K "__init__" "File.__init__" s_File_init f_File_init d_File_init
  b_File_init : Binds K d_File_init P_File_init []
  f_File_len : Addr
  d_File_len : FuncData
  F_File_len : Fun K "__len__" "File.__len__" s_File_len f_File_len d_File_len
  b_File_len : Binds K d_File_len P_File_len []
  M_File_len : Meth K C_File "__len__" f_File_len
  f_Keep_init : Addr
  d_Keep_init : FuncData
  F_Keep_init : Fun K "__init__" "Keep.__init__" s_Keep_init f_Keep_init d_Keep_init
  b_Keep_init : Binds K d_Keep_init P_Keep_init []
  f_Lean_init : Addr
  d_Lean_init : FuncData
  F_Lean_init : Fun K "__init__" "Lean.__init__" s_Lean_init f_Lean_init d_Lean_init
  b_Lean_init : Binds K d_Lean_init P_Lean_init []
  f_Dig_init : Addr
  d_Dig_init : FuncData
  F_Dig_init : Fun K "__init__" "Dig.__init__" s_Dig_init f_Dig_init d_Dig_init
  b_Dig_init : Binds K d_Dig_init P_Dig_init []
  f_Script_init : Addr
  d_Script_init : FuncData
  F_Script_init : FunV K "__init__" "Script.__init__" s_Script_init f_Script_init d_Script_init
  b_Script_init : Binds K d_Script_init P_Script_init []
  f_History_init : Addr
  d_History_init : FuncData
  F_History_init : FunV K "__init__" "History.__init__" s_History_init f_History_init d_History_init
  b_History_init : Binds K d_History_init P_History_init []
  b1_History_init : Binds K d_History_init P_History_init [.none]
  f_History_iadd : Addr
  d_History_iadd : FuncData
  F_History_iadd : Fun K "__iadd__" "History.__iadd__" s_History_iadd f_History_iadd d_History_iadd
  b_History_iadd : Binds K d_History_iadd P_History_iadd []
  M_History_iadd : Meth K C_History "__iadd__" f_History_iadd
  L_File : ICls K C_File
  K_File : Mk K C_File f_File_init
  A_File_row : NoAttr K C_File "row"
  L_Full : ICls K C_Full
  K_Full : Mk0 K C_Full
  L_Keep : ICls K C_Keep
  K_Keep : Mk K C_Keep f_Keep_init
  A_Keep_wide : NoAttr K C_Keep "wide"
  L_Lean : ICls K C_Lean
  K_Lean : Mk K C_Lean f_Lean_init
  A_Lean_wide : NoAttr K C_Lean "wide"
  L_Dig : ICls K C_Dig
  K_Dig : Mk K C_Dig f_Dig_init
  A_Dig_wide : NoAttr K C_Dig "wide"
  L_Script : ICls K C_Script
  K_Script : Mk K C_Script f_Script_init
  A_Script_rows : NoAttr K C_Script "rows"
  L_History : ICls K C_History
  K_History : Mk K C_History f_History_init
  A_History_start : NoAttr K C_History "start"
  A_History_rows : NoAttr K C_History "rows"
  sf_History : PySem.W.selfFirst K C_History = true
  s_File_File : PySem.W.kitOne K (.ref C_File) (.ref C_File) = some true
  si_File_str : PySem.W.subIn K (.ref C_File) (.type "str") = some false
  s_Full_Dig : PySem.W.kitOne K (.ref C_Full) (.ref C_Dig) = some false
  s_Full_Full : PySem.W.kitOne K (.ref C_Full) (.ref C_Full) = some true
  s_Full_Keep : PySem.W.kitOne K (.ref C_Full) (.ref C_Keep) = some false
  s_Full_Lean : PySem.W.kitOne K (.ref C_Full) (.ref C_Lean) = some false
  s_Full_Step : PySem.W.kitOne K (.ref C_Full) (.ref C_Step) = some true
  si_Full_str : PySem.W.subIn K (.ref C_Full) (.type "str") = some false
  s_Keep_Dig : PySem.W.kitOne K (.ref C_Keep) (.ref C_Dig) = some false
  s_Keep_Full : PySem.W.kitOne K (.ref C_Keep) (.ref C_Full) = some false
  s_Keep_Keep : PySem.W.kitOne K (.ref C_Keep) (.ref C_Keep) = some true
  s_Keep_Lean : PySem.W.kitOne K (.ref C_Keep) (.ref C_Lean) = some false
  s_Keep_Step : PySem.W.kitOne K (.ref C_Keep) (.ref C_Step) = some true
  si_Keep_str : PySem.W.subIn K (.ref C_Keep) (.type "str") = some false
  s_Lean_Dig : PySem.W.kitOne K (.ref C_Lean) (.ref C_Dig) = some false
  s_Lean_Full : PySem.W.kitOne K (.ref C_Lean) (.ref C_Full) = some false
  s_Lean_Keep : PySem.W.kitOne K (.ref C_Lean) (.ref C_Keep) = some false
  s_Lean_Lean : PySem.W.kitOne K (.ref C_Lean) (.ref C_Lean) = some true
  s_Lean_Step : PySem.W.kitOne K (.ref C_Lean) (.ref C_Step) = some true
  si_Lean_str : PySem.W.subIn K (.ref C_Lean) (.type "str") = some false
  s_Dig_Dig : PySem.W.kitOne K (.ref C_Dig) (.ref C_Dig) = some true
  s_Dig_Full : PySem.W.kitOne K (.ref C_Dig) (.ref C_Full) = some false
  s_Dig_Keep : PySem.W.kitOne K (.ref C_Dig) (.ref C_Keep) = some false
  s_Dig_Lean : PySem.W.kitOne K (.ref C_Dig) (.ref C_Lean) = some false
  s_Dig_Step : PySem.W.kitOne K (.ref C_Dig) (.ref C_Step) = some true
  si_Dig_str : PySem.W.subIn K (.ref C_Dig) (.type "str") = some false
  si_Script_str : PySem.W.subIn K (.ref C_Script) (.type "str") = some false
  s_History_File : PySem.W.kitOne K (.ref C_History) (.ref C_File) = some false
  s_History_History : PySem.W.kitOne K (.ref C_History) (.ref C_History) = some true
  si_History_str : PySem.W.subIn K (.ref C_History) (.type "str") = some false
  C_InvalidFile : Addr
  I_InvalidFile : Addr
  mc_InvalidFile : mg "InvalidFile" = some (.ref C_InvalidFile)
  S_InvalidFile : SupX PySem.Challenge.rw_keptholes_k81_texts_that_are_none.prog K C_InvalidFile I_InvalidFile "value" "value"
  C_InvalidNumber : Addr
  I_InvalidNumber : Addr
  mc_InvalidNumber : mg "InvalidNumber" = some (.ref C_InvalidNumber)
  S_InvalidNumber : SupX PySem.Challenge.rw_keptholes_k81_texts_that_are_none.prog K C_InvalidNumber I_InvalidNumber "value" "value"
  C_InvalidScript : Addr
  C_InvalidList : Addr
  C_InvalidWrite : Addr
  I_InvalidWrite : Addr
  mc_InvalidWrite : mg "InvalidWrite" = some (.ref C_InvalidWrite)
  S_InvalidWrite : SupX PySem.Challenge.rw_keptholes_k81_texts_that_are_none.prog K C_InvalidWrite I_InvalidWrite "value" "value"
  C_InvalidText : Addr
  I_InvalidText : Addr
  mc_InvalidText : mg "InvalidText" = some (.ref C_InvalidText)
  S_InvalidText : SupX PySem.Challenge.rw_keptholes_k81_texts_that_are_none.prog K C_InvalidText I_InvalidText "spot" "spot"
  x_InvalidText : XfC K C_InvalidText
  e_InvalidText_InvalidText : PySem.W.exmOne K (.ref C_InvalidText) (.ref C_InvalidText) = some true
  e_InvalidFile_InvalidText : PySem.W.exmOne K (.ref C_InvalidFile) (.ref C_InvalidText) = some false
  e_InvalidNumber_InvalidText : PySem.W.exmOne K (.ref C_InvalidNumber) (.ref C_InvalidText) = some false
  e_InvalidScript_InvalidText : PySem.W.exmOne K (.ref C_InvalidScript) (.ref C_InvalidText) = some false
  e_InvalidList_InvalidText : PySem.W.exmOne K (.ref C_InvalidList) (.ref C_InvalidText) = some false
  e_InvalidWrite_InvalidText : PySem.W.exmOne K (.ref C_InvalidWrite) (.ref C_InvalidText) = some false
end Kh

set_option Elab.async false
set_option linter.all false
set_option maxRecDepth 100000
set_option maxHeartbeats 4000000
namespace Kh
open PySem PySem.Spec L2
def prR : OK → Bool
  | .file => true
  | .full => true
  | .keep => true
  | .lean => true
  | .dig => true
  | .script => true
  | .history => true
  | _ => false

def m_law_spring (a_script : (List Int)) (a_at : Int) : Res (List Int) :=
  (cond (decide (a_at < (a_script.length : Int))) ((pix a_script a_at).bind fun z2 => Res.ok z2) (Res.ok (((17 : Int) * a_at) + (3 : Int)))).bind fun (s1 : Int) => cond (decide (((10 : Int) ^ Int.toNat (18 : Int)) ≤ s1)) ((pmul ((10 : Int) ^ Int.toNat (60 : Int)) ((10 : Int) ^ Int.toNat (60 : Int))).bind fun z6 => (pmul z6 ((10 : Int) ^ Int.toNat (60 : Int))).bind fun z7 => (pmul z7 ((10 : Int) ^ Int.toNat (60 : Int))).bind fun z8 => (pmul z8 z8).bind fun z9 => (pmod (s1 - ((10 : Int) ^ Int.toNat (18 : Int))) z9).bind fun z10 => Res.ok ([z10] : List Int)) ((foldR (fun (s13 : (Int × Int × Int)) x14 => (pmul s13.2.1 s13.2.1).bind fun z17 => (pmul (((((s13.1 * (39373 : Int)) + (x14 * (977 : Int))) + ((4099 : Int) * a_at)) + (5 : Int)) % (2147483543 : Int)) (((z17 + ((48611 : Int) * x14)) + (2713 : Int)) % (2147483497 : Int))).bind fun z18 => Res.ok ((((((s13.1 * (39373 : Int)) + (x14 * (977 : Int))) + ((4099 : Int) * a_at)) + (5 : Int)) % (2147483543 : Int)), (((z17 + ((48611 : Int) * x14)) + (2713 : Int)) % (2147483497 : Int)), ((s13.2.2 * (2147483496 : Int)) + ((z18 + ((31 : Int) * x14)) % (2147483496 : Int))))) (rangeL 0 (Int.toNat (46 : Int))) (((s1 + ((3 : Int) * a_at)) % (2147483543 : Int)), (s1 % (2147483497 : Int)), (0 : Int))).bind fun s13 => Res.ok ([s13.2.2] : List Int))

def m_law_sip (a_spring : (List Int)) (a_many : Int) : Res (Int × (List Int)) :=
  (pix a_spring (0 : Int)).bind fun z1 => (pmod z1 a_many).bind fun z2 => (pix a_spring (0 : Int)).bind fun z3 => (pdiv z3 a_many).bind fun z4 => (pset a_spring (0 : Int) z4).bind fun z5 => Res.ok (z2, z5)

def m_law_steps (a_spring : (List Int)) : Res ((List Str) × (List Int)) :=
  (m_law_sip a_spring (8 : Int)).bind fun z2 => (guard (small62 ((1 : Int) + z2.1)) ()).bind fun _ => (foldR (fun (s3 : ((List Str) × (List Int))) x4 => (m_law_sip s3.2 (4 : Int)).bind fun z7 => (pix ([("full" : Str), ("keep " : Str), ("lean " : Str), ("dig " : Str)] : List Str) z7.1).bind fun z8 => (m_law_sip z7.2 (30 : Int)).bind fun z10 => (pstrI ((1 : Int) + z10.1)).bind fun z11 => (prepS z11 (if (!decide (z8 = ("full" : Str))) then 1 else 0 : Int)).bind fun z12 => (pcat z8 z12).bind fun z13 => (papp s3.1 z13).bind fun z9 => Res.ok (z9, z10.2)) (rangeL 0 (Int.toNat ((1 : Int) + z2.1))) (([] : List Str), z2.2)).bind fun s3 => Res.ok (s3.1, s3.2)

def m_number_in (a_word : Str) : Res (Option Int) :=
  cond (decide (a_word = ("" : Str))) (Res.ok none) ((compR (β := Nat) (fun x2 => cond (!decide (x2 ∈ signsL ("0123456789" : Str))) (Res.ok (some x2)) (Res.ok none)) (signsL a_word)).bind fun l3 => cond (!l3.isEmpty) (Res.ok none) ((andR ((pixS a_word (0 : Int)).bind fun z5 => Res.ok (decide ((chS z5) = ("0" : Str)))) (Res.ok (!decide (a_word = ("0" : Str))))).bind fun t6 => cond t6 (Res.ok none) ((pintS a_word).bind fun z8 => Res.ok (some z8))))

inductive StepT where
  | full
  | keep (n : Int)
  | lean (n : Int)
  | dig (n : Int)
  deriving DecidableEq
def stepA : StepT → Any
  | .full => .obj .full []
  | .keep n => .obj .keep [.int n]
  | .lean n => .obj .lean [.int n]
  | .dig n => .obj .dig [.int n]
def m_is_whole (a_value : Int) : Res Bool :=
  (andR (Res.ok true) (Res.ok (!false))).bind fun z1 => Res.ok z1

def m_check_least (a_value : Int) (a_least : Int) : Res Unit :=
  (m_is_whole a_value).bind fun z1 => cond z1 (cond (decide (a_value < a_least)) (Res.err ⟨.number, (Any.int a_value)⟩) (Res.ok ())) (Res.err ⟨.number, (Any.int a_value)⟩)

def m_Keep_make (n : Int) : Res Int := (m_check_least n 1).bind fun _ => .ok n

def m_Lean_make (n : Int) : Res Int := (m_check_least n 1).bind fun _ => .ok n

def m_Dig_make (n : Int) : Res Int := (m_check_least n 1).bind fun _ => .ok n

def m_step_in (a_line : Str) : Res (Option StepT) :=
  cond (decide (a_line = ("full" : Str))) (Res.ok (some StepT.full)) ((ppart a_line (" " : Str)).bind fun z2 => (m_number_in z2.2.2).bind fun z3 => cond (z3.isNone) (Res.ok none) ((punO z3).bind fun z5 => cond (decide (z5 < (1 : Int))) (Res.ok none) (cond (decide (z2.1 = ("keep" : Str))) ((m_Keep_make z5).bind fun z7 => Res.ok (some (StepT.keep z7))) (cond (decide (z2.1 = ("lean" : Str))) ((m_Lean_make z5).bind fun z9 => Res.ok (some (StepT.lean z9))) ((cond (decide (z2.1 = ("dig" : Str))) ((m_Dig_make z5).bind fun z11 => Res.ok (some (StepT.dig z11))) (Res.ok none)).bind fun z12 => Res.ok z12)))))

def m_are_steps (a_value : (List StepT)) : Res Bool :=
  (andR (Res.ok true) ((compR (β := StepT) (fun x1 => Res.ok none) a_value).bind fun l2 => Res.ok (l2.isEmpty))).bind fun z3 => Res.ok z3

def m_Script_make (o : Option (List StepT)) : Res (List StepT) := (m_are_steps (o.getD [])).bind fun b => guard (b = true) (o.getD [])

def m_read_script (a_text : Str) : Res (List StepT) :=
  (cond (decide (a_text = ("" : Str))) (Res.ok ([] : List Str)) ((psplit a_text ("\n" : Str)).bind fun z2 => Res.ok z2)).bind fun z3 => (foldR (fun (s4 : (List StepT)) x5 => (m_step_in x5.2).bind fun z8 => cond (z8.isNone) (Res.err ⟨.text, (Any.int (x5.1 + (1 : Int)))⟩) ((punO z8).bind fun z11 => (papp s4 z11).bind fun z10 => Res.ok z10)) (enumL z3) ([] : List StepT)).bind fun s4 => (m_Script_make (some s4)).bind fun z17 => Res.ok z17

def m_are_cells (a_value : Str) : Res Bool :=
  (andR (Res.ok true) ((compR (β := Nat) (fun x1 => (pcat (".0" : Str) ("abcdefghijklmnopqrstuvwxyz" : Str)).bind fun z2 => cond (!decide (x1 ∈ signsL z2)) (Res.ok (some x1)) (Res.ok none)) (signsL a_value)).bind fun l3 => Res.ok (l3.isEmpty))).bind fun z4 => Res.ok z4

def m_check_file (a_value : Str) : Res Unit :=
  Res.ok ()

def m_is_content (a_value : Str) : Res Bool :=
  (andR (Res.ok true) ((compR (β := Nat) (fun x1 => (pcat ("0" : Str) ("abcdefghijklmnopqrstuvwxyz" : Str)).bind fun z2 => cond (!decide (x1 ∈ signsL z2)) (Res.ok (some x1)) (Res.ok none)) (signsL a_value)).bind fun l3 => Res.ok (l3.isEmpty))).bind fun z4 => Res.ok z4

def m_is_write (a_value : (Int × Str)) (a_length : Int) : Res Bool :=
  cond (!decide ((2 : Int) = (2 : Int))) (Res.ok false) ((m_is_whole a_value.1).bind fun z2 => cond z2 ((m_is_content a_value.2).bind fun z4 => cond z4 ((andR (Res.ok (decide ((0 : Int) ≤ a_value.1))) (andR (Res.ok (!decide (a_value.2 = ("" : Str)))) ((plenS a_value.2).bind fun z6 => Res.ok (decide ((a_value.1 + z6) ≤ a_length))))).bind fun z7 => Res.ok z7) (Res.ok false)) (Res.ok false))

def m_check_write (a_value : (Int × Str)) (a_length : Int) : Res Unit :=
  (m_is_write a_value a_length).bind fun z1 => cond z1 (Res.ok ()) (Res.err ⟨.write, (Any.tup [(Any.int a_value.1), (Any.str a_value.2)])⟩)

def m_File_len (a_self : Str) : Res Int :=
  (plenS a_self).bind fun z1 => Res.ok z1

def m_History_make (a_file : Str) (a_writes : (Option (List (Int × Str)))) : Res (Str × List (Int × Str)) :=
  (m_check_file a_file).bind fun z1 => ((match a_writes with | none => Res.ok ([] : List (Int × Str)) | some z2 => Res.ok z2)).bind fun z3 => (foldR (fun (s4 : Unit) x5 => (plenO (m_File_len a_file)).bind fun z8 => (m_check_write x5 z8).bind fun z9 => Res.ok ()) z3 ()).bind fun s4 => Res.ok (a_file, z3)

def m_History_iadd (a_self : (Str × List (Int × Str))) (a_write : (Int × Str)) : Res (List (Int × Str)) :=
  (plenO (m_File_len a_self.1)).bind fun z1 => (m_check_write a_write z1).bind fun z2 => (papp a_self.2 a_write).bind fun z3 => Res.ok z3

def m_File_make (z : Str) : Res Str := (m_are_cells z).bind fun b => cond b (.ok z) (.err ⟨.file, .str z⟩)

def m_is_whole__v3 (a_value : (Option Int)) : Res Bool :=
  (andR (Res.ok (a_value.isSome)) (Res.ok (!false))).bind fun z1 => Res.ok z1

def m_is_write__v3 (a_value : ((Option Int) × Str)) (a_length : Int) : Res Bool :=
  cond (!decide ((2 : Int) = (2 : Int))) (Res.ok false) ((m_is_whole__v3 a_value.1).bind fun z2 => cond z2 ((m_is_content a_value.2).bind fun z4 => cond z4 ((andR ((punO a_value.1).bind fun z6 => Res.ok (decide ((0 : Int) ≤ z6))) (andR (Res.ok (!decide (a_value.2 = ("" : Str)))) ((plenS a_value.2).bind fun z7 => (punO a_value.1).bind fun z8 => Res.ok (decide ((z8 + z7) ≤ a_length))))).bind fun z9 => Res.ok z9) (Res.ok false)) (Res.ok false))

def m_write_in (a_line : Str) (a_length : Int) : Res (Option (Int × Str)) :=
  (ppart a_line (" " : Str)).bind fun z1 => (m_number_in z1.1).bind fun z2 => ((m_is_write__v3 (z2, z1.2.2) a_length).bind fun z3 => cond z3 ((punO z2).bind fun z4 => Res.ok (some (z4, z1.2.2))) (Res.ok none)).bind fun z5 => Res.ok z5

def m_read_history (a_text : Str) : Res (Str × List (Int × Str)) :=
  (psplit a_text ("\n" : Str)).bind fun z1 => (pix z1 (0 : Int)).bind fun z2 => (m_are_cells z2).bind fun z3 => cond z3 ((pix z1 (0 : Int)).bind fun z11 => (m_File_make z11).bind fun z12 => (m_History_make z12 none).bind fun z10 => (foldR (fun (s13 : (List (Int × Str))) x14 => (pix z1 (0 : Int)).bind fun z17 => (plenS z17).bind fun z18 => (m_write_in x14.2 z18).bind fun z19 => cond (z19.isNone) (Res.err ⟨.text, (Any.int (x14.1 + (2 : Int)))⟩) ((punO z19).bind fun z21 => (m_History_iadd (z10.1, s13) z21).ne.bind fun z22 => Res.ok z22)) (enumL (cutD z1 (some (1 : Int)) none)) z10.2).bind fun s13 => Res.ok (z10.1, s13)) (Res.err ⟨.text, (Any.int (1 : Int))⟩)

def m_law_spot (a_way : Int) (a_value : Str) : Res (List Any) :=
  (Res.grab ((cond (decide (a_way = (0 : Int))) ((m_read_script a_value).bind fun z3 => Res.ok ()) ((m_read_history a_value).bind fun z6 => Res.ok ())).bind fun (s2 : Unit) => Res.ok ([(Any.str ("read" : Str))] : List Any)) fun e => match e with | ⟨.text, x10⟩ => Res.ok ([x10] : List Any) | ⟨.file, x10⟩ => Res.err ⟨.file, x10⟩ | ⟨.number, x10⟩ => Res.err ⟨.number, x10⟩ | ⟨.script, x10⟩ => Res.err ⟨.script, x10⟩ | ⟨.list, x10⟩ => Res.err ⟨.list, x10⟩ | ⟨.write, x10⟩ => Res.err ⟨.write, x10⟩ | _ => .bad).bind fun (s1 : (List Any)) => Res.ok s1

def m_law_all_told (a_spring : (List Int)) (a_way : Int) (a_lines : (List Str)) (a_first : Int) (a_bad : (List Str)) : Res (Bool × (List Int)) :=
  (forR (ρ := (Bool × (List Int))) (fun (s1 : (List Int)) x2 => (m_law_sip s1 (((a_lines.length : Int) + (1 : Int)) - a_first)).bind fun z5 => (m_law_sip z5.2 (4 : Int)).bind fun z6 => (pix ([(cutD a_lines (some (a_first + z5.1)) none), (cutD a_lines (some ((a_first + z5.1) + (1 : Int))) none), ([] : (List Str)), ([("x" : Str), ("" : Str)] : List Str)] : List (List Str)) z6.1).bind fun z7 => (pcatL (cutD a_lines none (some (a_first + z5.1))) ([x2] : List Str)).bind fun z8 => (pcatL z8 z7).bind fun z9 => (pjoin ("\n" : Str) z9).bind fun z10 => (andR (Res.ok (!decide (z10 = ("" : Str)))) ((m_law_spot a_way z10).bind fun z11 => ((peqA z11 ([(Any.int ((a_first + z5.1) + (1 : Int)))] : List Any)).bind fun b => Res.ok !b).bind fun z12 => Res.ok z12)).bind fun t13 => cond t13 (Res.ok (Ctl.rt (false, z6.2))) (Res.ok (Ctl.nx z6.2))) a_bad a_spring).bind (Ctl.fin (fun s1 => Res.ok (true, s1)) (fun r => Res.ok r))

def m_law_no_steps (a_line : Str) : Res (List Str) :=
  (pcatL ([("" : Str), (" " : Str), ("Full" : Str), ("full " : Str), (" full" : Str), ("full 1" : Str), ("ful" : Str), ("keep" : Str), ("keep " : Str), ("keep 0" : Str), ("keep 04" : Str)] : List Str) ([("keep -1" : Str), ("keep +1" : Str), ("keep  4" : Str), ("keep 4 " : Str), (" keep 4" : Str), ("keep 4.0" : Str), ("keep a" : Str), ("Keep 4" : Str)] : List Str)).bind fun z1 => (pcatL z1 ([("kepp 4" : Str), ("lean" : Str), ("lean 0" : Str), ("dig 00" : Str), ("dig" : Str), ("dig 1 2" : Str), ("dig 1,2" : Str), ("lean_4" : Str), ("keep4" : Str)] : List Str)).bind fun z2 => (pcatL z2 ([("lean 04" : Str), ("dig 1_0" : Str), ("dig 04" : Str), ("lean +4" : Str), ("lean -4" : Str), ("dig 0" : Str), ("dig " : Str), ("lean " : Str)] : List Str)).bind fun z3 => (pcat a_line (" " : Str)).bind fun z4 => (pcat a_line ("x" : Str)).bind fun z5 => (pcat (" " : Str) a_line).bind fun z6 => (pcatL z3 ([("4 keep" : Str), ("keep 1_0" : Str), z4, z5, z6] : List Str)).bind fun z7 => Res.ok z7

def m_law_cells (a_spring : (List Int)) (a_length : Int) : Res (Str × (List Int)) :=
  (m_law_sip a_spring (4 : Int)).bind fun z1 => (pix ([("..0ab" : Str), (".0abcd" : Str), ("aab0." : Str), ("abcdefghijklmnopqrstuvwxyz.0" : Str)] : List Str) z1.1).bind fun z2 => (guard (small62 a_length) ()).bind fun _ => (compS (β := Nat) (fun (s5 : (List Int)) x4 => (plenS z2).bind fun z6 => (m_law_sip s5 z6).bind fun z7 => (pixS z2 z7.1).bind fun z8 => Res.ok (some z8, z7.2)) (rangeL 0 (Int.toNat a_length)) z1.2).bind fun l9 => (pjoin ("" : Str) (l9.1.map chS)).bind fun z10 => Res.ok (z10, l9.2)

def m_law_text (a_spring : (List Int)) (a_length : Int) : Res (Str × (List Int)) :=
  (m_law_sip a_spring (4 : Int)).bind fun z1 => (pix ([("0ab" : Str), ("0abcd" : Str), ("ab" : Str), ("abcdefghijklmnopqrstuvwxyz0" : Str)] : List Str) z1.1).bind fun z2 => (guard (small62 a_length) ()).bind fun _ => (compS (β := Nat) (fun (s5 : (List Int)) x4 => (plenS z2).bind fun z6 => (m_law_sip s5 z6).bind fun z7 => (pixS z2 z7.1).bind fun z8 => Res.ok (some z8, z7.2)) (rangeL 0 (Int.toNat a_length)) z1.2).bind fun l9 => (pjoin ("" : Str) (l9.1.map chS)).bind fun z10 => Res.ok (z10, l9.2)

def m_law_writes (a_spring : (List Int)) (a_length : Int) (a_most : Int) : Res ((List (Int × Str)) × (List Int)) :=
  (m_law_sip a_spring (a_most + (1 : Int))).bind fun z2 => (pmul z2.1 (if (decide ((0 : Int) < a_length)) then 1 else 0 : Int)).bind fun z3 => (guard (small62 z3) ()).bind fun _ => (foldR (fun (s4 : ((List (Int × Str)) × (List Int))) x5 => (m_law_sip s4.2 a_length).bind fun z8 => (m_law_sip z8.2 (4 : Int)).bind fun z9 => (pix ([(1 : Int), (2 : Int), (3 : Int), (9 : Int)] : List Int) z9.1).bind fun z10 => (m_law_sip z9.2 (min (a_length - z8.1) z10)).bind fun z11 => (m_law_text z11.2 ((1 : Int) + z11.1)).bind fun z13 => (papp s4.1 (z8.1, z13.1)).bind fun z12 => Res.ok (z12, z13.2)) (rangeL 0 (Int.toNat z3)) (([] : List (Int × Str)), z2.2)).bind fun s4 => Res.ok (s4.1, s4.2)

def m_law_no_writes (a_size : Int) : Res (List Str) :=
  (pstrI a_size).bind fun z1 => (pcat z1 (" a" : Str)).bind fun z2 => (prepS ("a" : Str) (a_size + (1 : Int))).bind fun z3 => (pcat ("0 " : Str) z3).bind fun z4 => (pcatL ([("" : Str), (" " : Str), ("a" : Str), ("0" : Str), ("0 " : Str), ("0  a" : Str), (" 0 a" : Str), ("0 a " : Str), ("00 a" : Str), ("01 a" : Str), ("-1 a" : Str), ("+0 a" : Str), ("0 ." : Str)] : List Str) ([("0 A" : Str), ("0 a." : Str), ("0 a b" : Str), z2, z4, ("a 0" : Str), ("0a" : Str), ("0=a" : Str)] : List Str)).bind fun z5 => (pstrI (a_size - (1 : Int))).bind fun z6 => (pcat z6 (" aa" : Str)).bind fun z7 => (pstrI a_size).bind fun z8 => (pcat z8 (" aa" : Str)).bind fun z9 => (pcatL z5 ([z7, z9] : List Str)).bind fun z10 => (prepS ("9" : Str) (40 : Int)).bind fun z11 => (pcat z11 (" a" : Str)).bind fun z12 => (pcatL z10 ([("0,a" : Str), ("0 -" : Str), ("0 1" : Str), ("1_0 a" : Str), ("0.0 a" : Str), z12] : List Str)).bind fun z13 => Res.ok z13

def m_read_script__v2 (a_text : Any) : Res Empty :=
  (pisA prR "str" a_text).bind fun z1 => cond z1 (.bad) (Res.err ⟨.text, Any.non⟩)

def m_read_history__v2 (a_text : Any) : Res Empty :=
  (pisA prR "str" a_text).bind fun z1 => cond z1 (.bad) (Res.err ⟨.text, Any.non⟩)

def m_law_spot__v2 (a_way : Int) (a_value : Any) : Res (List Any) :=
  (Res.grab ((cond (decide (a_way = (0 : Int))) ((m_read_script__v2 a_value).bind fun z3 => z3.elim) ((m_read_history__v2 a_value).bind fun z5 => z5.elim)).bind fun (s2 : Unit) => Res.ok ([(Any.str ("read" : Str))] : List Any)) fun e => match e with | ⟨.text, x8⟩ => Res.ok ([x8] : List Any) | ⟨.file, x8⟩ => Res.err ⟨.file, x8⟩ | ⟨.number, x8⟩ => Res.err ⟨.number, x8⟩ | ⟨.script, x8⟩ => Res.err ⟨.script, x8⟩ | ⟨.list, x8⟩ => Res.err ⟨.list, x8⟩ | ⟨.write, x8⟩ => Res.err ⟨.write, x8⟩ | _ => .bad).bind fun (s1 : (List Any)) => Res.ok s1

def m_law (a_script : (List Int)) : Res Bool :=
  (forR (ρ := Bool) (fun (s1 : Unit) x2 => (m_law_spring a_script x2).bind fun z6 => (m_law_steps z6).bind fun z8 => (pix z8.1 (0 : Int)).bind fun z9 => (m_law_no_steps z9).bind fun z10 => (m_law_all_told z8.2 (0 : Int) z8.1 (0 : Int) z10).bind fun z11 => cond z11.1 ((pjoin ("\n" : Str) z8.1).bind fun z13 => (m_law_spot (0 : Int) z13).bind fun z14 => ((peqA z14 ([(Any.str ("read" : Str))] : List Any)).bind fun b => Res.ok !b).bind fun z15 => cond z15 (Res.ok (Ctl.rt false)) ((pjoin ("\n" : Str) z8.1).bind fun z17 => (pcat z17 ("\n" : Str)).bind fun z18 => (m_law_spot (0 : Int) z18).bind fun z19 => ((peqA z19 ([(Any.int ((z8.1.length : Int) + (1 : Int)))] : List Any)).bind fun b => Res.ok !b).bind fun z20 => cond z20 (Res.ok (Ctl.rt false)) ((m_law_sip z11.2 (13 : Int)).bind fun z22 => (m_law_cells z22.2 z22.1).bind fun z23 => (plenS z23.1).bind fun z24 => (m_law_writes z23.2 z24 (6 : Int)).bind fun z25 => (compR (β := Str) (fun x26 => (pstrI x26.1).bind fun z27 => (pcat z27 (" " : Str)).bind fun z28 => (pcat z28 x26.2).bind fun z29 => Res.ok (some z29)) z25.1).bind fun l30 => (pcatL ([z23.1] : List Str) l30).bind fun z31 => (plenS z23.1).bind fun z32 => (m_law_no_writes z32).bind fun z33 => (m_law_all_told z25.2 (1 : Int) z31 (1 : Int) z33).bind fun z34 => cond z34.1 ((pcat z23.1 (" " : Str)).bind fun z36 => (pcat z23.1 ("-" : Str)).bind fun z37 => (pcat (" " : Str) z23.1).bind fun z38 => (forR (ρ := Bool) (fun (s39 : Unit) x40 => (pcatL ([x40] : List Str) (cutD z31 (some (1 : Int)) none)).bind fun z43 => (pjoin ("\n" : Str) z43).bind fun z44 => (m_law_spot (1 : Int) z44).bind fun z45 => ((peqA z45 ([(Any.int (1 : Int))] : List Any)).bind fun b => Res.ok !b).bind fun z46 => cond z46 (Res.ok (Ctl.rt false)) (Res.ok (Ctl.nx ()))) ([("A" : Str), ("a b" : Str), z36, z37, z38, ("0 a" : Str), ("1" : Str)] : List Str) ()).bind (Ctl.fin (fun s39 => (pjoin ("\n" : Str) z31).bind fun z51 => (m_law_spot (1 : Int) z51).bind fun z52 => ((peqA z52 ([(Any.str ("read" : Str))] : List Any)).bind fun b => Res.ok !b).bind fun z53 => cond z53 (Res.ok (Ctl.rt false)) ((pjoin ("\n" : Str) z31).bind fun z55 => (pcat z55 ("\n" : Str)).bind fun z56 => (m_law_spot (1 : Int) z56).bind fun z57 => ((peqA z57 ([(Any.int ((z31.length : Int) + (1 : Int)))] : List Any)).bind fun b => Res.ok !b).bind fun z58 => cond z58 (Res.ok (Ctl.rt false)) (Res.all fun q60 => (m_File_make z23.1).bind fun z61 => Res.all fun q62 => (m_File_make z23.1).bind fun z63 => (m_History_make z63 (some z25.1)).bind fun z64 => Res.all fun q65 => (forR (ρ := Bool) (fun (s66 : Unit) x67 => (m_law_spot__v2 (0 : Int) x67).bind fun z70 => ((peqA z70 ([Any.non] : List Any)).bind fun b => Res.ok !b).bind fun z71 => cond z71 (Res.ok (Ctl.rt false)) ((m_law_spot__v2 (1 : Int) x67).bind fun z73 => ((peqA z73 ([Any.non] : List Any)).bind fun b => Res.ok !b).bind fun z74 => cond z74 (Res.ok (Ctl.rt false)) (Res.ok (Ctl.nx ())))) ([Any.non, (Any.int (0 : Int)), (Any.lst (z8.1.map Any.str)), (Any.tup (z8.1.map Any.str)), (Any.tag q60 .dic), (Any.bl true), (Any.tag q62 ((fun (z : Str) => Any.obj .file [.str z]) z61)), (Any.tag q65 ((fun (p : Str × List (Int × Str)) => Any.obj .history [.obj .file [.str p.1], .lst (p.2.map fun (w : Int × Str) => .tup [.int w.1, .str w.2])]) z64))] : List Any) ()).bind (Ctl.fin (fun s66 => Res.ok (Ctl.nx ())) (fun r => Res.ok (Ctl.rt r)))))) (fun r => Res.ok (Ctl.rt r)))) (Res.ok (Ctl.rt false))))) (Res.ok (Ctl.rt false))) (rangeL 0 (Int.toNat (2 : Int))) ()).bind (Ctl.fin (fun s1 => (andR ((m_law_spot (0 : Int) ("\n" : Str)).bind fun z90 => (peqA z90 ([(Any.int (1 : Int))] : List Any)).bind fun z91 => Res.ok z91) (andR ((m_law_spot (1 : Int) ("\n" : Str)).bind fun z92 => (peqA z92 ([(Any.int (2 : Int))] : List Any)).bind fun z93 => Res.ok z93) ((m_law_spot (0 : Int) ("" : Str)).bind fun z94 => (peqA z94 ([(Any.str ("read" : Str))] : List Any)).bind fun z95 => Res.ok z95))).bind fun z96 => Res.ok z96) (fun r => Res.ok r))
end Kh

set_option Elab.async false
set_option linter.all false
set_option maxRecDepth 100000
set_option maxHeartbeats 4000000
namespace Kh
open PySem PySem.Spec L2
open PySem.W (Frag)
abbrev PR : Program := PySem.Challenge.rw_keptholes_k81_texts_that_are_none.prog
section
variable {w : World} {K : Frag} {mg : Str → Option Value} {base : Heap}
def clR (R : Prg K mg) : OK → Addr × List Str
  | .file => (R.C_File, ["row"])
  | .full => (R.C_Full, [])
  | .keep => (R.C_Keep, ["wide"])
  | .lean => (R.C_Lean, ["wide"])
  | .dig => (R.C_Dig, ["wide"])
  | .script => (R.C_Script, ["rows"])
  | .history => (R.C_History, ["start", "rows"])
  | _ => (0, [])
theorem icR (R : Prg K mg) : ∀ k, prR k = true → ICls K (clR R k).1
  | .file, _ => R.L_File
  | .full, _ => R.L_Full
  | .keep, _ => R.L_Keep
  | .lean, _ => R.L_Lean
  | .dig, _ => R.L_Dig
  | .script, _ => R.L_Script
  | .history, _ => R.L_History
  | .store, h => nomatch h
  | .copier, h => nomatch h
theorem sub_str (R : Prg K mg) : ∀ k, prR k = true → PySem.W.subIn K (.ref (clR R k).1) (.type "str") = some false
  | .file, _ => R.si_File_str
  | .full, _ => R.si_Full_str
  | .keep, _ => R.si_Keep_str
  | .lean, _ => R.si_Lean_str
  | .dig, _ => R.si_Dig_str
  | .script, _ => R.si_Script_str
  | .history, _ => R.si_History_str
  | .store, h => nomatch h
  | .copier, h => nomatch h
def exE (R : Prg K mg) : Er → Exn
  | ⟨.file, v⟩ => ⟨R.C_InvalidFile, ["value"], [anyD (clR R) v]⟩
  | ⟨.number, v⟩ => ⟨R.C_InvalidNumber, ["value"], [anyD (clR R) v]⟩
  | ⟨.script, v⟩ => ⟨R.C_InvalidScript, ["value"], [anyD (clR R) v]⟩
  | ⟨.list, v⟩ => ⟨R.C_InvalidList, ["value"], [anyD (clR R) v]⟩
  | ⟨.write, v⟩ => ⟨R.C_InvalidWrite, ["value"], [anyD (clR R) v]⟩
  | ⟨.text, v⟩ => ⟨R.C_InvalidText, ["spot"], [anyD (clR R) v]⟩
  | _ => ⟨0, [], []⟩
/-! plain words -/
theorem ln {ds : List Dat} (h : Nat.ble ds.length 1000 = true := by rfl) : ds.length ≤ sizeLine := Nat.le_trans (Nat.le_of_ble_eq_true h) (by decide)
/-- the script: a list of at most 63 whole numbers -/
def spLaw : Spc := fun ds M P _ => ∃ ns : List Int, ns.length ≤ 63 ∧ ds = [.scr ns] ∧ M = [] ∧ P (.bl true) []
theorem law_sp {K : Frag} {H : Hp} {a : Addr} {ns : List Int} (hl : ns.length ≤ 63) (hS : SqL K H a (ns.map V.int)) : toSp K spLaw [.ref a] H (fun v _ => v = .bl true) fun _ _ _ => False := law_spS hS ⟨ns, hl, rfl, rfl, rfl⟩
def S_law_spring (R : Prg K mg) : Spc := fun ds M P E => ∃ (a_script : (List Int)) (a_at : Int), ds = [(.scr a_script), (.int a_at)] ∧ (m_law_spring a_script a_at).Out (fun r => ∀ q, P (.raw (.ref q)) ((q, .lst (r.map Dat.int)) :: M)) (fun x => E (exE R x) M)
theorem ok_law_spring (R : Prg K mg) : FnD PR w K mg base 1 R.f_law_spring R.d_law_spring P_law_spring (S_law_spring R) := by
  refine fn_d false R.F_law_spring sc_law_spring (fun h => nomatch h) (fun ds M P E ⟨_, _, e, _⟩ => by rw [e]; rfl) fun cdv A outer s H E hr ds M Pd PE h => ?_
  obtain ⟨a_script, a_at, rfl, h⟩ := h
  have hu := hr.units
  refine WS.ends ?_
  refine ws_set <| ex_bin <| ex_bin <| ex_int <| ex_var ⟨rfl, rfl⟩ <| o_mulS (.inl (by decide)) <| ex_int <| o_add <| ?_
  refine ws_ifQ (fun Q τ M' => ∃ s1 : Int, ∃ d3 d4 d5 d6 d7, [some (.scr a_script), some (.int a_at), some (.int s1), d3, d4, d5, d6, d7] = τ ∧ M = M' ∧ Q s1) (ob h) (fun _ h => et_cmp <| ex_var ⟨rfl, rfl⟩ <| ex_callB R.n_len PyProof.Rows.Boot.«len» <| ea_cons <| ex_var ⟨rfl, rfl⟩ <| ea_nil <| c_len_scr <| o_lt <| ⟨_, rfl, cif h (fun h => ?g4) (fun h => ?g5)⟩) ?k27
  case g4 =>
    refine ws_set <| ex_ix <| ex_var ⟨rfl, rfl⟩ <| ex_var ⟨rfl, rfl⟩ <| r_ixScr (ob h) fun z2 h => ?_
    exact ws_nil ⟨z2, _, _, _, _, _, rfl, rfl, h⟩
  case g5 =>
    exact ws_nil ⟨(((17 : Int) * a_at) + (3 : Int)), _, _, _, _, _, rfl, rfl, h⟩
  case k27 =>
    rintro _ _ ⟨s1, d3, d4, d5, d6, d7, rfl, rfl, h⟩
    refine ws_if <| et_cmp <| ex_var ⟨rfl, rfl⟩ <| ex_bin <| ex_int <| ex_int <| o_powW (by decide +kernel) <| o_ge <| ⟨_, rfl, cif h (fun h => ?g12) (fun h => ?g26)⟩
    case g12 =>
      refine ws_set <| ex_bin <| ex_bin <| ex_bin <| ex_bin <| ex_int <| ex_int <| o_powW (by decide +kernel) <| ex_bin <| ex_int <| ex_int <| o_powW (by decide +kernel) <| r_mul (ob h) fun z6 h => ex_bin <| ex_int <| ex_int <| o_powW (by decide +kernel) <| r_mul (ob h) fun z7 h => ex_bin <| ex_int <| ex_int <| o_powW (by decide +kernel) <| r_mul (ob h) fun z8 h => ?_
      exact ws_ret <| ex_lstC <| ea_cons <| ex_bin <| ex_callTy R.n_int PyProof.Rows.Boot.«int» <| ea_cons <| ex_bin <| ex_var ⟨rfl, rfl⟩ <| ex_bin <| ex_int <| ex_int <| o_powW (by decide +kernel) <| o_sub <| ea_nil <| c_int_i <| ex_bin <| ex_var ⟨rfl, rfl⟩ <| ex_var ⟨rfl, rfl⟩ <| r_mul (ob h) fun z9 h => r_mod (ob h) fun z10 h => ea_nil ⟨ln, fun q _ => dN [] (h q)⟩
    case g26 =>
      refine ws_nil ?_
      refine ws_par <| ea_cons <| ex_bin <| ex_callTy R.n_int PyProof.Rows.Boot.«int» <| ea_cons <| ex_bin <| ex_var ⟨rfl, rfl⟩ <| ex_bin <| ex_int <| ex_var ⟨rfl, rfl⟩ <| o_mulS (.inl (by decide)) <| o_add <| ea_nil <| c_int_i <| ex_int <| o_mod (by decide) <| ea_cons <| ex_bin <| ex_callTy R.n_int PyProof.Rows.Boot.«int» <| ea_cons <| ex_var ⟨rfl, rfl⟩ <| ea_nil <| c_int_i <| ex_int <| o_mod (by decide) <| ea_nil ⟨_, _, rfl, ?_⟩
      refine ws_set <| ex_int <| ?_
      refine ws_forT <| ei_rng1 R.n_range <| ex_int <| ⟨(46 : Int), rfl, by decide, foldT Dat.int (xs := (rangeL 0 (Int.toNat (46 : Int)))) (fun (s13 : (Int × Int × Int)) τ M' => ∃ d3 d7, [some (.scr a_script), some (.int a_at), some (.int s1), d3, some (.int s13.1), some (.int s13.2.1), some (.int s13.2.2), d7] = τ ∧ M = M') (ob h) ⟨_, _, rfl, rfl⟩ (fun _ _ _ _ => trivial) ?g22 ?g23⟩
      case g22 =>
        rintro x14 s13 _ _ N ⟨d3, d7, rfl, rfl⟩ h
        refine gx_name  <| ?_
        refine ws_set <| ex_bin <| ex_callTy R.n_int PyProof.Rows.Boot.«int» <| ea_cons <| ex_bin <| ex_bin <| ex_bin <| ex_bin <| ex_var ⟨rfl, rfl⟩ <| ex_int <| o_mulS (.inr (by decide)) <| ex_bin <| ex_var ⟨rfl, rfl⟩ <| ex_int <| o_mulS (.inr (by decide)) <| o_add <| ex_bin <| ex_int <| ex_var ⟨rfl, rfl⟩ <| o_mulS (.inl (by decide)) <| o_add <| ex_int <| o_add <| ea_nil <| c_int_i <| ex_int <| o_mod (by decide) <| ?_
        refine ws_set <| ex_bin <| ex_callTy R.n_int PyProof.Rows.Boot.«int» <| ea_cons <| ex_bin <| ex_bin <| ex_bin <| ex_var ⟨rfl, rfl⟩ <| ex_var ⟨rfl, rfl⟩ <| r_mul (ob h) fun z17 h => ex_bin <| ex_int <| ex_var ⟨rfl, rfl⟩ <| o_mulS (.inl (by decide)) <| o_add <| ex_int <| o_add <| ea_nil <| c_int_i <| ex_int <| o_mod (by decide) <| ?_
        refine ws_set <| ex_bin <| ex_bin <| ex_var ⟨rfl, rfl⟩ <| ex_int <| o_mulS (.inr (by decide)) <| ex_bin <| ex_callTy R.n_int PyProof.Rows.Boot.«int» <| ea_cons <| ex_bin <| ex_bin <| ex_var ⟨rfl, rfl⟩ <| ex_var ⟨rfl, rfl⟩ <| r_mul (ob h) fun z18 h => ex_bin <| ex_int <| ex_var ⟨rfl, rfl⟩ <| o_mulS (.inl (by decide)) <| o_add <| ea_nil <| c_int_i <| ex_int <| o_mod (by decide) <| o_add <| ?_
        exact ws_nil ⟨((((((s13.1 * (39373 : Int)) + (x14 * (977 : Int))) + ((4099 : Int) * a_at)) + (5 : Int)) % (2147483543 : Int)), (((z17 + ((48611 : Int) * x14)) + (2713 : Int)) % (2147483497 : Int)), ((s13.2.2 * (2147483496 : Int)) + ((z18 + ((31 : Int) * x14)) % (2147483496 : Int)))), ⟨_, _, rfl, rfl⟩, h⟩
      case g23 =>
        rintro s13 _ _ ⟨d3, d7, rfl, rfl⟩ h
        exact ws_ret <| ex_lstC <| ea_cons <| ex_var ⟨rfl, rfl⟩ <| ea_nil ⟨ln, fun q _ => dN [] (h q)⟩

def S_law_sip (R : Prg K mg) : Spc := fun ds M P E => ∃ (P_spring : Addr) (a_spring : (List Int)) (a_many : Int), ds = [.raw (.ref P_spring), (.int a_many)] ∧ M = [(P_spring, .lst (a_spring.map Dat.int))] ∧ (m_law_sip a_spring a_many).Out (fun r => P (.int r.1) [(P_spring, .lst (r.2.map Dat.int))]) (fun _ => False)
theorem ok_law_sip (R : Prg K mg) : FnD PR w K mg base 1 R.f_law_sip R.d_law_sip P_law_sip (S_law_sip R) := by
  refine fn_d false R.F_law_sip sc_law_sip (fun h => nomatch h) (fun ds M P E ⟨_, _, _, e, _⟩ => by rw [e]; rfl) fun cdv A outer s H E hr ds M Pd PE h => ?_
  obtain ⟨P_spring, a_spring, a_many, rfl, rfl, h⟩ := h
  have hu := hr.units
  refine WS.ends ?_
  refine ws_set <| ex_bin <| ex_callTy R.n_int PyProof.Rows.Boot.«int» <| ea_cons <| ex_ix <| ex_var ⟨rfl, rfl⟩ <| ex_int <| r_ixC [] Dat.int (xs := a_spring) (ob h) fun z1 h => ea_nil <| c_int_i <| ex_var ⟨rfl, rfl⟩ <| r_mod (ob h) fun z2 h => ?_
  refine ws_asg <| ex_bin <| ex_ix <| ex_var ⟨rfl, rfl⟩ <| ex_int <| r_ixC [] Dat.int (xs := a_spring) (ob h) fun z3 h => ex_var ⟨rfl, rfl⟩ <| r_div (ob h) fun z4 h => gx_subT <| ex_var ⟨rfl, rfl⟩ <| ex_int <| r_set [] Dat.int (xs := a_spring) (x := z4) (ob h) fun z5 h => ?_
  exact ws_ret <| ex_var ⟨rfl, rfl⟩ <| (dN [] h)

def S_law_steps (R : Prg K mg) : Spc := fun ds M P E => ∃ (P_spring : Addr) (a_spring : (List Int)), ds = [.raw (.ref P_spring)] ∧ M = [(P_spring, .lst (a_spring.map Dat.int))] ∧ (m_law_steps a_spring).Out (fun r => P ((lstD Dat.str) r.1) [(P_spring, .lst (r.2.map Dat.int))]) (fun _ => False)
theorem ok_law_steps (R : Prg K mg) : FnD PR w K mg base 2 R.f_law_steps R.d_law_steps P_law_steps (S_law_steps R) := by
  refine fn_d false R.F_law_steps sc_law_steps (fun h => nomatch h) (fun ds M P E ⟨_, _, e, _⟩ => by rw [e]; rfl) fun cdv A outer s H E hr ds M Pd PE h => ?_
  obtain ⟨P_spring, a_spring, rfl, rfl, h⟩ := h
  have hu := hr.units
  refine WS.ends ?_
  refine ws_set <| ex_lstC <| ea_nil ⟨ln, fun q1 _ => ?_⟩
  refine ws_forT <| ei_rng1 R.n_range <| ex_bin <| ex_int <| ex_callA (ok_law_sip R) (hr.mono (by decide)) R.m_law_sip R.F_law_sip R.b_law_sip <| ea_cons <| ex_var ⟨rfl, rfl⟩ <| ea_cons <| ex_int <| ea_nil <| apC [_] ⟨_, a_spring, (8 : Int), rfl, rfl, outC1 (ob h) (fun z2 h => o_add <| ⟨((1 : Int) + z2.1), rfl, (gd (ob h)).1, have h := (gd (ob h)).2; foldT Dat.int (xs := (rangeL 0 (Int.toNat ((1 : Int) + z2.1)))) (fun (s3 : ((List Str) × (List Int))) τ M' => ∃ d2 d3, [some (.raw (.ref P_spring)), some (.raw (.ref q1)), d2, d3] = τ ∧ (q1, .lst (s3.1.map Dat.str)) :: (P_spring, .lst (s3.2.map Dat.int)) :: [] = M') (ob h) ⟨_, _, rfl, rfl⟩ (fun _ _ _ _ => trivial) ?g16 ?g17⟩) (fun _ h => h)⟩
  case g16 =>
    rintro x4 s3 _ _ N ⟨d2, d3, rfl, rfl⟩ h
    refine gx_name  <| ?_
    refine ws_set <| ex_ix <| ex_lst <| ea_cons <| ex_str <| ea_cons <| ex_str <| ea_cons <| ex_str <| ea_cons <| ex_str <| ea_nil ⟨ln, ex_callA (ok_law_sip R) (hr.mono (by decide)) R.m_law_sip R.F_law_sip R.b_law_sip <| ea_cons <| ex_var ⟨rfl, rfl⟩ <| ea_cons <| ex_int <| ea_nil <| apC [_] ⟨_, s3.2, (4 : Int), rfl, rfl, outC1 (ob h) (fun z7 h => r_ix Dat.str (xs := ([("full" : Str), ("keep " : Str), ("lean " : Str), ("dig " : Str)] : List Str)) (ob h) fun z8 h => ?_) (fun _ h => h)⟩⟩
    refine ws_expr <| r_app [] Dat.str (xs := s3.1) <| ex_var ⟨rfl, rfl⟩ ⟨rfl, rfl, ea_cons <| ex_bin <| ex_var ⟨rfl, rfl⟩ <| ex_bin <| ex_callTy R.n_str PyProof.Rows.Boot.«str» <| ea_cons <| ex_bin <| ex_int <| ex_callA (ok_law_sip R) (hr.mono (by decide)) R.m_law_sip R.F_law_sip R.b_law_sip <| ea_cons <| ex_var ⟨rfl, rfl⟩ <| ea_cons <| ex_int <| ea_nil <| apC [_] ⟨_, z7.2, (30 : Int), rfl, rfl, outC1 (ob h) (fun z10 h => o_add <| ea_nil <| c_strI (ob h) fun z11 h => ex_callTy R.n_int PyProof.Rows.Boot.«int» <| ea_cons <| ex_cmp <| ex_var ⟨rfl, rfl⟩ <| ex_str <| o_neT <| ea_nil <| c_int_b <| r_repS (ob h) fun z12 h => r_cat (ob h) fun z13 h => ea_nil <| b_app [] Dat.str (xs := s3.1) (x := z13) (ob h) fun z9 h => ?_) (fun _ h => h)⟩⟩
    exact ws_nil ⟨(z9, z10.2), ⟨_, _, rfl, rfl⟩, h⟩
  case g17 =>
    rintro s3 _ _ ⟨d2, d3, rfl, rfl⟩ h
    exact ws_ret <| ex_frz <| ex_var ⟨rfl, rfl⟩ ⟨_, _, _, rfl, (List.perm_middle (l₁ := [])), (dN [] h)⟩

def S_number_in (R : Prg K mg) : Spc := fun ds M P E => ∃ (a_word : Str), ds = [(.str a_word)] ∧ (m_number_in a_word).Out (fun r => P ((optD Dat.int) r) M) (fun x => E (exE R x) M)
theorem ok_number_in (R : Prg K mg) : FnD PR w K mg base 1 R.f_number_in R.d_number_in P_number_in (S_number_in R) := by
  refine fn_d false R.F_number_in sc_number_in (fun h => nomatch h) (fun ds M P E ⟨_, e, _⟩ => by rw [e]; rfl) fun cdv A outer s H E hr ds M Pd PE h => ?_
  obtain ⟨a_word, rfl, h⟩ := h
  have hu := hr.units
  refine WS.ends ?_
  refine ws_if <| et_w <| ew_or <| et_cmp <| ex_var ⟨rfl, rfl⟩ <| ex_str <| o_eqT <| ⟨_, rfl, cif h (fun h => ⟨fun _ => ?g1, fun z => nomatch z⟩) (fun h => ew_or1 <| et_cmp <| ex_lcT [("sign", 1)] <| ei_str <| ex_var ⟨rfl, rfl⟩ <| ⟨a_word, rfl, compT chD chD (xs := (signsL a_word)) (ob h) trivial (fun x2 _ h s H C cl fp => gc_name  <| fun s H C cl fp => ef_one <| et_cmp <| ex_var ⟨rfl, rfl⟩ <| ex_gstr R.g_DIGITS <| o_notInS <| ⟨_, rfl, cif h (fun h => fun s H C cl fp => ex_var ⟨rfl, rfl⟩ <| ⟨rfl, x2, rfl, h⟩) (fun h => ⟨rfl, h⟩)⟩) (fun l3 h => ex_lst <| ea_nil ⟨ln, r_neNilT chD hu <| ⟨_, rfl, cif h (fun h => ?g4) (fun h => ?g10)⟩⟩)⟩)⟩
  case g1 =>
    exact ws_ret <| ex_non <| (dN [] h)
  case g4 =>
    exact ws_ret <| ex_non <| (dN [] h)
  case g10 =>
    refine ws_nil ?_
    refine ws_if <| etJQ (ob h) (fun _ h => et_w <| ewA h (fun _ h => et_cmp <| ex_ix <| ex_var ⟨rfl, rfl⟩ <| ex_int <| r_ixS (ob h) fun z5 h => ex_str <| o_eqT <| ⟨_, rfl, rfl, h⟩) (fun h => ew_and1 <| et_cmp <| ex_var ⟨rfl, rfl⟩ <| ex_str <| o_neT <| ⟨_, rfl, rfl, h⟩)) fun t6 h => cif h (fun h => ?g7) (fun h => ?g9)
    case g7 =>
      exact ws_ret <| ex_non <| (dN [] h)
    case g9 =>
      refine ws_nil ?_
      exact ws_ret <| ex_callTy R.n_int PyProof.Rows.Boot.«int» <| ea_cons <| ex_var ⟨rfl, rfl⟩ <| ea_nil <| c_intS (ob h) fun z8 h => (dN [] h)

abbrev fileD (R : Prg K mg) (z : Str) : Dat := .obj R.C_File ["row"] [.str z]
abbrev historyD (R : Prg K mg) (z : Str × List (Int × Str)) : Dat := .obj R.C_History ["start", "rows"] [fileD R z.1, lstD (pairD Dat.int Dat.str) z.2]
abbrev fullD (R : Prg K mg) (_ : Unit) : Dat := .obj R.C_Full [] []
abbrev keepD (R : Prg K mg) (n : Int) : Dat := .obj R.C_Keep ["wide"] [.int n]
abbrev leanD (R : Prg K mg) (n : Int) : Dat := .obj R.C_Lean ["wide"] [.int n]
abbrev digD (R : Prg K mg) (n : Int) : Dat := .obj R.C_Dig ["wide"] [.int n]
abbrev stepD (R : Prg K mg) : StepT → Dat
  | .full => fullD R ()
  | .keep n => keepD R n
  | .lean n => leanD R n
  | .dig n => digD R n
theorem stepA_D (R : Prg K mg) (s : StepT) : anyD (clR R) (stepA s) = stepD R s := by
  cases s <;> simp [stepA, anyD, anyDL, stepD, clR]
theorem stepA_comp (R : Prg K mg) : anyD (clR R) ∘ stepA = stepD R := funext fun s => stepA_D R s
theorem isStep (R : Prg K mg) (s : StepT) : ∃ t, (∀ M, TyD K M (stepD R s) t) ∧ PySem.W.kitOne K t (.ref R.C_Step) = some true := by
  cases s with
  | full => exact ⟨_, fun M => .obj R.L_Full, R.s_Full_Step⟩
  | keep n => exact ⟨_, fun M => .obj R.L_Keep, R.s_Keep_Step⟩
  | lean n => exact ⟨_, fun M => .obj R.L_Lean, R.s_Lean_Step⟩
  | dig n => exact ⟨_, fun M => .obj R.L_Dig, R.s_Dig_Step⟩
abbrev scriptD (R : Prg K mg) (xs : List StepT) : Dat := .obj R.C_Script ["rows"] [vtpD (stepD R) xs]

def S_is_whole (R : Prg K mg) : Spc := fun ds M P E => ∃ (a_value : Int), ds = [(.int a_value)] ∧ (m_is_whole a_value).Out (fun r => P (.bl r) M) (fun x => E (exE R x) M)
theorem ok_is_whole (R : Prg K mg) : FnD PR w K mg base 1 R.f_is_whole R.d_is_whole P_is_whole (S_is_whole R) := by
  refine fn_d false R.F_is_whole sc_is_whole (fun h => nomatch h) (fun ds M P E ⟨_, e, _⟩ => by rw [e]; rfl) fun cdv A outer s H E hr ds M Pd PE h => ?_
  obtain ⟨a_value, rfl, h⟩ := h
  have hu := hr.units
  refine WS.ends ?_
  exact ws_ret <| exJQ Dat.bl (ob h) (fun _ h => exA h (fun _ h => ex_callB R.n_isinstance PyProof.Rows.Boot.«isinstance» <| ea_cons <| ex_var ⟨rfl, rfl⟩ <| ea_cons <| ex_gty R.n_int PyProof.Rows.Boot.«int» <| ea_nil <| c_isi (k := true) (.ty _) .int (by rfl) <| ⟨rfl, true, rfl, h⟩) (fun h => ex_and1 <| ex_not <| ex_callB R.n_isinstance PyProof.Rows.Boot.«isinstance» <| ea_cons <| ex_var ⟨rfl, rfl⟩ <| ea_cons <| ex_gty R.n_bool PyProof.Rows.Boot.«bool» <| ea_nil <| c_isi (k := false) (.ty _) .int (by rfl) <| ⟨_, rfl, ⟨rfl, (!false), rfl, h⟩⟩)) fun z1 h => (dN [] h)

def S_check_least (R : Prg K mg) : Spc := fun ds M P E => ∃ (a_value : Int) (a_least : Int), ds = [(.int a_value), (.int a_least)] ∧ (m_check_least a_value a_least).Out (fun r => P .non M) (fun x => E (exE R x) M)
theorem ok_check_least (R : Prg K mg) : FnD PR w K mg base 2 R.f_check_least R.d_check_least P_check_least (S_check_least R) := by
  refine fn_d false R.F_check_least sc_check_least (fun h => nomatch h) (fun ds M P E ⟨_, _, e, _⟩ => by rw [e]; rfl) fun cdv A outer s H E hr ds M Pd PE h => ?_
  obtain ⟨a_value, a_least, rfl, h⟩ := h
  have hu := hr.units
  refine WS.ends ?_
  refine ws_if <| et_w <| ew_or <| et_not <| et_val <| ex_callF (ok_is_whole R) (hr.mono (by decide)) R.m_is_whole R.F_is_whole R.b_is_whole <| ea_cons <| ex_var ⟨rfl, rfl⟩ <| ea_nil <| ⟨a_value, rfl, outU (ob h) (fun z1 h => ⟨_, rfl, cifN h (fun h => ew_or1 <| et_cmp <| ex_var ⟨rfl, rfl⟩ <| ex_var ⟨rfl, rfl⟩ <| o_lt <| ⟨_, rfl, cif h (fun h => ?g3) (fun h => ?g4)⟩) (fun h => ⟨fun _ => ?g2, fun z => nomatch z⟩)⟩) (fun _ h => dX [] h)⟩
  case g2 =>
    exact ws_raise rfl R.S_InvalidNumber R.mc_InvalidNumber R.n_super hr <| ex_asA <| ex_var ⟨rfl, rfl⟩ <| ⟨anyD (clR R) (Any.int a_value), (by first | rfl | (simp only [anyD, anyDL, anyDL_map, List.map_map]; done) | (simp only [anyD, anyDL, anyDL_map, List.map_map]; rfl) | (simp only [anyD, anyDL, anyDL_map, List.map_map, stepA_comp, stepA_D]; rfl) | (simp only [anyD, anyDL, anyDL_map, List.map_map, stepA_comp, stepA_D]; done)), (dX [] h)⟩
  case g3 =>
    exact ws_raise rfl R.S_InvalidNumber R.mc_InvalidNumber R.n_super hr <| ex_asA <| ex_var ⟨rfl, rfl⟩ <| ⟨anyD (clR R) (Any.int a_value), (by first | rfl | (simp only [anyD, anyDL, anyDL_map, List.map_map]; done) | (simp only [anyD, anyDL, anyDL_map, List.map_map]; rfl) | (simp only [anyD, anyDL, anyDL_map, List.map_map, stepA_comp, stepA_D]; rfl) | (simp only [anyD, anyDL, anyDL_map, List.map_map, stepA_comp, stepA_D]; done)), (dX [] h)⟩
  case g4 =>
    refine ws_nil ?_
    exact ws_nil (dN [] h)

def S_Keep_init (R : Prg K mg) : Spc := fun ds M P E => ∃ q dx n M0, ds = [.raw (.ref q), .int n] ∧ M = (q, .ins R.C_Keep dx []) :: M0 ∧ (m_Keep_make n).Out (fun r => P .non ((q, .ins R.C_Keep dx [("wide", .int r)]) :: M0)) (fun x => E (exE R x) M)
theorem ok_Keep_init (R : Prg K mg) : FnD PR w K mg base 3 R.f_Keep_init R.d_Keep_init P_Keep_init (S_Keep_init R) := by
  refine fn_d false R.F_Keep_init sc_Keep_init (fun h => nomatch h) (fun ds M P E ⟨_, _, _, _, e, _⟩ => by rw [e]; rfl) fun cdv A outer s H E hr ds M Pd PE h => ?_
  obtain ⟨q, dx, n, M0, rfl, rfl, h⟩ := h
  refine ws_expr <| ex_callF (ok_check_least R) (hr.mono (by decide)) R.m_check_least R.F_check_least R.b_check_least <| ea_cons <| ex_var ⟨rfl, rfl⟩ <| ea_cons <| ex_int <| ea_nil ⟨n, 1, rfl, outU (ob h) (fun _ h => ?_) (fun _ h => h)⟩
  exact ws_fld <| ex_var ⟨rfl, rfl⟩ <| ex_var ⟨rfl, rfl⟩ ⟨q, _, dx, [], rfl, List.mem_cons_self, R.L_Keep.cl, R.A_Keep_wide, by decide, ws_nil (by have h2 : Pd .non ((q, .ins R.C_Keep dx [("wide", .int n)]) :: M0) := h; show Pd .non _; simpa [putC, putD] using h2)⟩
theorem mk_Keep {R : Prg K mg} {q dx : Addr} {n : Int} {M : Mem} {P : PK'} {E : XKx} {E1 : Er → Prop} {Q : Int → Prop} (h : (m_Keep_make n).Out Q E1) (hk : ∀ r, Q r → P (keepD R r) M) (hx : ∀ x, E1 x → E (exE R x) ((q, .ins R.C_Keep dx []) :: M)) :
    AP (S_Keep_init R) [.raw (.ref q), .int n] ((q, .ins R.C_Keep dx []) :: M) (fun d M2 => d = .non ∧ MadeP P q M2) E :=
  ap_all ⟨q, dx, n, M, rfl, rfl, out_mono h (fun r hr => .mk ⟨rfl, made_ok (fs := [("wide", .int r)]) (hk r hr)⟩) fun x h => .mk (hx x h)⟩

def S_Lean_init (R : Prg K mg) : Spc := fun ds M P E => ∃ q dx n M0, ds = [.raw (.ref q), .int n] ∧ M = (q, .ins R.C_Lean dx []) :: M0 ∧ (m_Lean_make n).Out (fun r => P .non ((q, .ins R.C_Lean dx [("wide", .int r)]) :: M0)) (fun x => E (exE R x) M)
theorem ok_Lean_init (R : Prg K mg) : FnD PR w K mg base 3 R.f_Lean_init R.d_Lean_init P_Lean_init (S_Lean_init R) := by
  refine fn_d false R.F_Lean_init sc_Lean_init (fun h => nomatch h) (fun ds M P E ⟨_, _, _, _, e, _⟩ => by rw [e]; rfl) fun cdv A outer s H E hr ds M Pd PE h => ?_
  obtain ⟨q, dx, n, M0, rfl, rfl, h⟩ := h
  refine ws_expr <| ex_callF (ok_check_least R) (hr.mono (by decide)) R.m_check_least R.F_check_least R.b_check_least <| ea_cons <| ex_var ⟨rfl, rfl⟩ <| ea_cons <| ex_int <| ea_nil ⟨n, 1, rfl, outU (ob h) (fun _ h => ?_) (fun _ h => h)⟩
  exact ws_fld <| ex_var ⟨rfl, rfl⟩ <| ex_var ⟨rfl, rfl⟩ ⟨q, _, dx, [], rfl, List.mem_cons_self, R.L_Lean.cl, R.A_Lean_wide, by decide, ws_nil (by have h2 : Pd .non ((q, .ins R.C_Lean dx [("wide", .int n)]) :: M0) := h; show Pd .non _; simpa [putC, putD] using h2)⟩
theorem mk_Lean {R : Prg K mg} {q dx : Addr} {n : Int} {M : Mem} {P : PK'} {E : XKx} {E1 : Er → Prop} {Q : Int → Prop} (h : (m_Lean_make n).Out Q E1) (hk : ∀ r, Q r → P (leanD R r) M) (hx : ∀ x, E1 x → E (exE R x) ((q, .ins R.C_Lean dx []) :: M)) :
    AP (S_Lean_init R) [.raw (.ref q), .int n] ((q, .ins R.C_Lean dx []) :: M) (fun d M2 => d = .non ∧ MadeP P q M2) E :=
  ap_all ⟨q, dx, n, M, rfl, rfl, out_mono h (fun r hr => .mk ⟨rfl, made_ok (fs := [("wide", .int r)]) (hk r hr)⟩) fun x h => .mk (hx x h)⟩

def S_Dig_init (R : Prg K mg) : Spc := fun ds M P E => ∃ q dx n M0, ds = [.raw (.ref q), .int n] ∧ M = (q, .ins R.C_Dig dx []) :: M0 ∧ (m_Dig_make n).Out (fun r => P .non ((q, .ins R.C_Dig dx [("wide", .int r)]) :: M0)) (fun x => E (exE R x) M)
theorem ok_Dig_init (R : Prg K mg) : FnD PR w K mg base 3 R.f_Dig_init R.d_Dig_init P_Dig_init (S_Dig_init R) := by
  refine fn_d false R.F_Dig_init sc_Dig_init (fun h => nomatch h) (fun ds M P E ⟨_, _, _, _, e, _⟩ => by rw [e]; rfl) fun cdv A outer s H E hr ds M Pd PE h => ?_
  obtain ⟨q, dx, n, M0, rfl, rfl, h⟩ := h
  refine ws_expr <| ex_callF (ok_check_least R) (hr.mono (by decide)) R.m_check_least R.F_check_least R.b_check_least <| ea_cons <| ex_var ⟨rfl, rfl⟩ <| ea_cons <| ex_int <| ea_nil ⟨n, 1, rfl, outU (ob h) (fun _ h => ?_) (fun _ h => h)⟩
  exact ws_fld <| ex_var ⟨rfl, rfl⟩ <| ex_var ⟨rfl, rfl⟩ ⟨q, _, dx, [], rfl, List.mem_cons_self, R.L_Dig.cl, R.A_Dig_wide, by decide, ws_nil (by have h2 : Pd .non ((q, .ins R.C_Dig dx [("wide", .int n)]) :: M0) := h; show Pd .non _; simpa [putC, putD] using h2)⟩
theorem mk_Dig {R : Prg K mg} {q dx : Addr} {n : Int} {M : Mem} {P : PK'} {E : XKx} {E1 : Er → Prop} {Q : Int → Prop} (h : (m_Dig_make n).Out Q E1) (hk : ∀ r, Q r → P (digD R r) M) (hx : ∀ x, E1 x → E (exE R x) ((q, .ins R.C_Dig dx []) :: M)) :
    AP (S_Dig_init R) [.raw (.ref q), .int n] ((q, .ins R.C_Dig dx []) :: M) (fun d M2 => d = .non ∧ MadeP P q M2) E :=
  ap_all ⟨q, dx, n, M, rfl, rfl, out_mono h (fun r hr => .mk ⟨rfl, made_ok (fs := [("wide", .int r)]) (hk r hr)⟩) fun x h => .mk (hx x h)⟩

def S_step_in (R : Prg K mg) : Spc := fun ds M P E => ∃ (a_line : Str), ds = [(.str a_line)] ∧ (m_step_in a_line).Out (fun r => P ((optD (stepD R)) r) M) (fun x => E (exE R x) M)
theorem ok_step_in (R : Prg K mg) : FnD PR w K mg base 5 R.f_step_in R.d_step_in P_step_in (S_step_in R) := by
  refine fn_d false R.F_step_in sc_step_in (fun h => nomatch h) (fun ds M P E ⟨_, e, _⟩ => by rw [e]; rfl) fun cdv A outer s H E hr ds M Pd PE h => ?_
  obtain ⟨a_line, rfl, h⟩ := h
  have hu := hr.units
  refine WS.ends ?_
  refine ws_if <| et_cmp <| ex_var ⟨rfl, rfl⟩ <| ex_str <| o_eqT <| ⟨_, rfl, cif h (fun h => ?g1) (fun h => ?g18)⟩
  case g1 =>
    exact ws_ret <| ex_new0 R.K_Full R.mc_Full fun q dx _ _ _ => made_ok (fs := []) <| (dN [] h)
  case g18 =>
    refine ws_nil ?_
    refine ws_asg <| ex_part <| ex_var ⟨rfl, rfl⟩ <| ⟨.str, ea_cons <| ex_str <| ea_nil <| r_part (ob h) fun z2 h => gx_tup <| gxs_cons <| gx_name  <| gxs_cons <| gx_name  <| gxs_cons <| gx_name  <| gxs_nil <| ?_⟩
    refine ws_set <| ex_callF (ok_number_in R) (hr.mono (by decide)) R.m_number_in R.F_number_in R.b_number_in <| ea_cons <| ex_var ⟨rfl, rfl⟩ <| ea_nil <| ⟨z2.2.2, rfl, outU (ob h) (fun z3 h => ?_) (fun _ h => dX [] h)⟩
    refine ws_if <| et_w <| ew_or <| et_cmp <| ex_var ⟨rfl, rfl⟩ <| ex_non <| o_isNT Dat.int (fun _ => ⟨rfl, fun _ z => nomatch z⟩) <| ⟨_, rfl, cif h (fun h => ⟨fun _ => ?g4, fun z => nomatch z⟩) (fun h => ew_or1 <| et_cmp <| ex_var ⟨rfl, rfl⟩ <| (punE z3 h fun z5 h => ex_int <| o_lt <| ⟨_, rfl, cif h (fun h => ?g6) (fun h => ?g15)⟩))⟩
    case g4 =>
      exact ws_ret <| ex_non <| (dN [] h)
    case g6 =>
      exact ws_ret <| ex_non <| (dN [] h)
    case g15 =>
      refine ws_nil ?_
      refine ws_if <| et_cmp <| ex_var ⟨rfl, rfl⟩ <| ex_str <| o_eqT <| ⟨_, rfl, cif h (fun h => ?g8) (fun h => ?g14)⟩
      case g8 =>
        exact ws_ret <| ex_make R.K_Keep (ok_Keep_init R) (hr.mono (by decide)) R.mc_Keep R.b_Keep_init .nil (fun _ => .nil) <| ea_cons <| ex_var ⟨rfl, rfl⟩ <| ea_nil <| fun q dx _ _ _ => mk_Keep (ob h) (fun z7 h => (dN [] h)) (fun _ h => dX [_] h)
      case g14 =>
        refine ws_nil ?_
        refine ws_if <| et_cmp <| ex_var ⟨rfl, rfl⟩ <| ex_str <| o_eqT <| ⟨_, rfl, cif h (fun h => ?g10) (fun h => ?g13)⟩
        case g10 =>
          exact ws_ret <| ex_make R.K_Lean (ok_Lean_init R) (hr.mono (by decide)) R.mc_Lean R.b_Lean_init .nil (fun _ => .nil) <| ea_cons <| ex_var ⟨rfl, rfl⟩ <| ea_nil <| fun q dx _ _ _ => mk_Lean (ob h) (fun z9 h => (dN [] h)) (fun _ h => dX [_] h)
        case g13 =>
          refine ws_nil ?_
          exact ws_ret <| exJQ (optD (stepD R)) (ob h) (fun _ h => ex_if <| et_cmp <| ex_var ⟨rfl, rfl⟩ <| ex_str <| o_eqT <| ⟨_, rfl, cif h (fun h => ex_make R.K_Dig (ok_Dig_init R) (hr.mono (by decide)) R.mc_Dig R.b_Dig_init .nil (fun _ => .nil) <| ea_cons <| ex_var ⟨rfl, rfl⟩ <| ea_nil <| fun q dx _ _ _ => mk_Dig (ob h) (fun z11 h => ⟨rfl, (some (StepT.dig z11)), rfl, h⟩) (fun _ h => dX [_] h)) (fun h => ex_non <| ⟨rfl, none, rfl, h⟩)⟩) fun z12 h => (dN [] h)

def S_are_steps (R : Prg K mg) : Spc := fun ds M P E => ∃ (a_value : (List StepT)), ds = [((lstD (stepD R)) a_value)] ∧ (m_are_steps a_value).Out (fun r => P (.bl r) M) (fun x => E (exE R x) M)
theorem ok_are_steps (R : Prg K mg) : FnD PR w K mg base 1 R.f_are_steps R.d_are_steps P_are_steps (S_are_steps R) := by
  refine fn_d false R.F_are_steps sc_are_steps (fun h => nomatch h) (fun ds M P E ⟨_, e, _⟩ => by rw [e]; rfl) fun cdv A outer s H E hr ds M Pd PE h => ?_
  obtain ⟨a_value, rfl, h⟩ := h
  have hu := hr.units
  refine WS.ends ?_
  exact ws_ret <| exJQ Dat.bl (ob h) (fun _ h => exA h (fun _ h => ex_callB R.n_isinstance PyProof.Rows.Boot.«isinstance» <| ea_cons <| ex_var ⟨rfl, rfl⟩ <| ea_cons <| ex_gty R.n_list PyProof.Rows.Boot.«list» <| ea_nil <| c_isi (k := true) (.ty _) .lst (by rfl) <| ⟨rfl, true, rfl, h⟩) (fun h => ex_and1 <| ex_cmp <| ex_lcT [("step", 1)] <| ei_list <| ex_var ⟨rfl, rfl⟩ <| ⟨_, rfl, compT (stepD R) (stepD R) (xs := a_value) (ob h) trivial (fun x1 _ h s H C cl fp => gc_name  <| fun s H C cl fp => ef_one <| et_not <| et_val <| ex_callB R.n_isinstance PyProof.Rows.Boot.«isinstance» <| ea_cons <| ex_var ⟨rfl, rfl⟩ <| ea_cons <| ex_gref R.mc_Step <| ea_nil <| c_isx (.own _) (isStep R x1) <| ⟨_, rfl, (fun z => absurd z (by decide)), fun _ => ⟨rfl, h⟩⟩) (fun l2 h => ex_lst <| ea_nil ⟨ln, r_eqNilT (stepD R) hu <| ⟨rfl, (l2.isEmpty), rfl, h⟩⟩)⟩)) fun z3 h => (dN [] h)

def S_Script_init (R : Prg K mg) : Spc := fun ds M P E => ∃ q dx o M0, ds = [.raw (.ref q), optD (lstD (stepD R)) o] ∧ M = (q, .ins R.C_Script dx []) :: M0 ∧ (m_Script_make o).Out (fun r => P .non ((q, .ins R.C_Script dx [("rows", vtpD (stepD R) r)]) :: M0)) (fun x => E (exE R x) M)
theorem ok_Script_init (R : Prg K mg) : FnD PR w K mg base 2 R.f_Script_init R.d_Script_init P_Script_init (S_Script_init R) := by
  refine fn_dV false R.F_Script_init sc_Script_init (fun h => nomatch h) (fun ds M P E ⟨_, _, _, _, e, _⟩ => by rw [e]; rfl) fun cdv A outer s H E hr ds M Pd PE h => ?_
  obtain ⟨q, dx, o, M0, rfl, rfl, h⟩ := h
  have h2 : WS (cxOf (L2.CX PR w) PR w K mg base N_Script_init "Script.__init__" (defScope s_Script_init) R.f_Script_init cdv A outer s H E) false (defBody s_Script_init).tail [some (.raw (.ref q)), some (optD (lstD (stepD R)) o), some (lstD (stepD R) (o.getD []))] ((q, .ins R.C_Script dx []) :: M0) (retR Pd PE) := by
    refine ws_if <| et_not <| et_val <| ex_callF (ok_are_steps R) (hr.mono (by decide)) R.m_are_steps R.F_are_steps R.b_are_steps <| ea_cons <| ex_var ⟨rfl, rfl⟩ <| ea_nil ⟨o.getD [], rfl, outU (ob h) (fun b h => ⟨_, rfl, (fun e => ?g2), fun e => ?g1⟩) (fun _ h => h)⟩
    case g1 =>
      refine ws_nil ?_
      exact ws_fld <| ex_callTy R.n_tuple PyProof.Rows.Boot.«tuple» <| ea_cons <| ex_var ⟨rfl, rfl⟩ <| ea_nil <| c_tupT (stepD R) (xs := o.getD []) <| ex_var ⟨rfl, rfl⟩ ⟨q, _, dx, [], rfl, List.mem_cons_self, R.L_Script.cl, R.A_Script_rows, by decide, ws_nil (show Pd .non _ from by simpa [putC, putD] using (gd h).2)⟩
    case g2 => exact absurd (gd h).1 (by simpa using e)
  cases o with
  | none => exact ws_set <| ex_if <| et_cmp <| ex_var ⟨rfl, rfl⟩ <| ex_non <| o_isN (fun u => by simp) ⟨true, rfl, (fun _ => ex_lst <| ea_nil ⟨ln, h2⟩), fun z => nomatch z⟩
  | some xs => exact ws_set <| ex_if <| et_cmp <| ex_var ⟨rfl, rfl⟩ <| ex_non <| o_isN (fun u => by simp [optD]) ⟨false, rfl, (fun z => nomatch z), fun _ => ex_var ⟨rfl, rfl⟩ h2⟩
theorem mk_Script {R : Prg K mg} {q dx : Addr} {o : Option (List StepT)} {M : Mem} {P : PK'} {E : XKx} {E1 : Er → Prop} {Q : List StepT → Prop} (h : (m_Script_make o).Out Q E1) (hk : ∀ r, Q r → P (scriptD R r) M) (hx : ∀ x, E1 x → E (exE R x) ((q, .ins R.C_Script dx []) :: M)) :
    AP (S_Script_init R) [.raw (.ref q), optD (lstD (stepD R)) o] ((q, .ins R.C_Script dx []) :: M) (fun d M2 => d = .non ∧ MadeP P q M2) E :=
  ap_all ⟨q, dx, o, M, rfl, rfl, out_mono h (fun r hr => .mk ⟨rfl, made_ok (fs := [("rows", vtpD (stepD R) r)]) (hk r hr)⟩) fun x h => .mk (hx x h)⟩

def S_read_script (R : Prg K mg) : Spc := fun ds M P E => ∃ (a_text : Str), ds = [(.str a_text)] ∧ (m_read_script a_text).Out (fun r => P ((scriptD R) r) M) (fun x => E (exE R x) M)
theorem ok_read_script (R : Prg K mg) : FnD PR w K mg base 6 R.f_read_script R.d_read_script P_read_script (S_read_script R) := by
  refine fn_d false R.F_read_script sc_read_script (fun h => nomatch h) (fun ds M P E ⟨_, e, _⟩ => by rw [e]; rfl) fun cdv A outer s H E hr ds M Pd PE h => ?_
  obtain ⟨a_text, rfl, h⟩ := h
  have hu := hr.units
  refine WS.ends ?_
  refine ws_if <| et_not <| et_val <| ex_callB R.n_isinstance PyProof.Rows.Boot.«isinstance» <| ea_cons <| ex_var ⟨rfl, rfl⟩ <| ea_cons <| ex_gty R.n_str PyProof.Rows.Boot.«str» <| ea_nil <| c_isi (k := true) (.ty _) .str (by rfl) <| ⟨_, rfl, (fun z => absurd z (by decide)), fun _ => ?_⟩
  refine ws_nil ?_
  refine ws_set <| ex_lstC <| ea_nil ⟨ln, fun q1 _ => ?_⟩
  refine ws_forT <| ei_enumT Dat.str R.n_enumerate <| exJQ (lstD Dat.str) (ob h) (fun _ h => ex_if <| et_cmp <| ex_var ⟨rfl, rfl⟩ <| ex_str <| o_eqT <| ⟨_, rfl, cif h (fun h => ex_lst <| ea_nil ⟨ln, ⟨rfl, ([] : List Str), rfl, h⟩⟩) (fun h => ex_split <| ex_var ⟨rfl, rfl⟩ <| ⟨.str, ea_cons <| ex_str <| ea_nil <| r_split (ob h) fun z2 h => ⟨rfl, z2, rfl, h⟩⟩)⟩) fun z3 h => ⟨z3, rfl, foldT (pairD Dat.int Dat.str) (xs := (enumL z3)) (fun (s4 : (List StepT)) τ M' => ∃ d2 d3 d4, [some (.str a_text), some (.raw (.ref q1)), d2, d3, d4] = τ ∧ (q1, .lst (s4.map (stepD R))) :: M = M') (ob h) ⟨_, _, _, rfl, rfl⟩ (fun _ _ _ _ => trivial) ?g15 ?g16⟩
  case g15 =>
    rintro x5 s4 _ _ N ⟨d2, d3, d4, rfl, rfl⟩ h
    refine gx_tup <| gxs_cons <| gx_name  <| gxs_cons <| gx_name  <| gxs_nil <| ?_
    refine ws_set <| ex_callF (ok_step_in R) (hr.mono (by decide)) R.m_step_in R.F_step_in R.b_step_in <| ea_cons <| ex_var ⟨rfl, rfl⟩ <| ea_nil <| ⟨x5.2, rfl, outU (ob h) (fun z8 h => ?_) (fun _ h => dX [_] h)⟩
    refine ws_if <| et_cmp <| ex_var ⟨rfl, rfl⟩ <| ex_non <| o_isNT (stepD R) (fun s9 => by cases s9 <;> exact ⟨rfl, fun _ z => nomatch z⟩) <| ⟨_, rfl, cif h (fun h => ?g9) (fun h => ?g13)⟩
    case g9 =>
      exact ws_raise rfl R.S_InvalidText R.mc_InvalidText R.n_super hr <| ex_asA <| ex_bin <| ex_var ⟨rfl, rfl⟩ <| ex_int <| o_add <| ⟨anyD (clR R) (Any.int (x5.1 + (1 : Int))), (by first | rfl | (simp only [anyD, anyDL, anyDL_map, List.map_map]; done) | (simp only [anyD, anyDL, anyDL_map, List.map_map]; rfl) | (simp only [anyD, anyDL, anyDL_map, List.map_map, stepA_comp, stepA_D]; rfl) | (simp only [anyD, anyDL, anyDL_map, List.map_map, stepA_comp, stepA_D]; done)), (dX [_] h)⟩
    case g13 =>
      refine ws_nil ?_
      refine ws_expr <| r_app [] (stepD R) (xs := s4) <| ex_var ⟨rfl, rfl⟩ ⟨rfl, rfl, ea_cons <| ex_var ⟨rfl, rfl⟩ <| (punE z8 h fun z11 h => ea_nil <| b_app [] (stepD R) (xs := s4) (x := z11) (ob h) fun z10 h => ?_)⟩
      exact ws_nil ⟨z10, ⟨_, _, _, rfl, rfl⟩, h⟩
  case g16 =>
    rintro s4 _ _ ⟨d2, d3, d4, rfl, rfl⟩ h
    refine ws_frz 1 rfl (List.perm_middle (l₁ := [])) ?_
    exact ws_ret <| ex_make R.K_Script (ok_Script_init R) (hr.mono (by decide)) R.mc_Script R.b_Script_init .nil (fun _ => .nil) <| ea_cons <| ex_var ⟨rfl, rfl⟩ <| ea_nil <| fun q dx _ _ _ => mk_Script (ob h) (fun z17 h => (dN [] h)) (fun _ h => dX [_] h)

def S_are_cells (R : Prg K mg) : Spc := fun ds M P E => ∃ (a_value : Str), ds = [(.str a_value)] ∧ (m_are_cells a_value).Out (fun r => P (.bl r) M) (fun x => E (exE R x) M)
theorem ok_are_cells (R : Prg K mg) : FnD PR w K mg base 1 R.f_are_cells R.d_are_cells P_are_cells (S_are_cells R) := by
  refine fn_d false R.F_are_cells sc_are_cells (fun h => nomatch h) (fun ds M P E ⟨_, e, _⟩ => by rw [e]; rfl) fun cdv A outer s H E hr ds M Pd PE h => ?_
  obtain ⟨a_value, rfl, h⟩ := h
  have hu := hr.units
  refine WS.ends ?_
  exact ws_ret <| exJQ Dat.bl (ob h) (fun _ h => exA h (fun _ h => ex_callB R.n_isinstance PyProof.Rows.Boot.«isinstance» <| ea_cons <| ex_var ⟨rfl, rfl⟩ <| ea_cons <| ex_gty R.n_str PyProof.Rows.Boot.«str» <| ea_nil <| c_isi (k := true) (.ty _) .str (by rfl) <| ⟨rfl, true, rfl, h⟩) (fun h => ex_and1 <| ex_cmp <| ex_lcT [("cell", 1)] <| ei_str <| ex_var ⟨rfl, rfl⟩ <| ⟨a_value, rfl, compT chD chD (xs := (signsL a_value)) (ob h) trivial (fun x1 _ h s H C cl fp => gc_name  <| fun s H C cl fp => ef_one <| et_cmp <| ex_var ⟨rfl, rfl⟩ <| ex_bin <| ex_str <| ex_gstr R.g_SIGNS <| r_cat (ob h) fun z2 h => o_notInS <| ⟨_, rfl, cif h (fun h => fun s H C cl fp => ex_var ⟨rfl, rfl⟩ <| ⟨rfl, x1, rfl, h⟩) (fun h => ⟨rfl, h⟩)⟩) (fun l3 h => ex_lst <| ea_nil ⟨ln, r_eqNilT chD hu <| ⟨rfl, (l3.isEmpty), rfl, h⟩⟩)⟩)) fun z4 h => (dN [] h)

def S_check_file (R : Prg K mg) : Spc := fun ds M P E => ∃ (a_value : Str), ds = [((fileD R) a_value)] ∧ (m_check_file a_value).Out (fun r => P .non M) (fun x => E (exE R x) M)
theorem ok_check_file (R : Prg K mg) : FnD PR w K mg base 1 R.f_check_file R.d_check_file P_check_file (S_check_file R) := by
  refine fn_d false R.F_check_file sc_check_file (fun h => nomatch h) (fun ds M P E ⟨_, e, _⟩ => by rw [e]; rfl) fun cdv A outer s H E hr ds M Pd PE h => ?_
  obtain ⟨a_value, rfl, h⟩ := h
  have hu := hr.units
  refine WS.ends ?_
  refine ws_if <| et_not <| et_val <| ex_callB R.n_isinstance PyProof.Rows.Boot.«isinstance» <| ea_cons <| ex_var ⟨rfl, rfl⟩ <| ea_cons <| ex_gref R.mc_File <| ea_nil <| c_isi (k := true) (.own _) (.obj R.L_File) R.s_File_File <| ⟨_, rfl, (fun z => absurd z (by decide)), fun _ => ?_⟩
  refine ws_nil ?_
  exact ws_nil (dN [] h)

def S_is_content (R : Prg K mg) : Spc := fun ds M P E => ∃ (a_value : Str), ds = [(.str a_value)] ∧ (m_is_content a_value).Out (fun r => P (.bl r) M) (fun x => E (exE R x) M)
theorem ok_is_content (R : Prg K mg) : FnD PR w K mg base 1 R.f_is_content R.d_is_content P_is_content (S_is_content R) := by
  refine fn_d false R.F_is_content sc_is_content (fun h => nomatch h) (fun ds M P E ⟨_, e, _⟩ => by rw [e]; rfl) fun cdv A outer s H E hr ds M Pd PE h => ?_
  obtain ⟨a_value, rfl, h⟩ := h
  have hu := hr.units
  refine WS.ends ?_
  exact ws_ret <| exJQ Dat.bl (ob h) (fun _ h => exA h (fun _ h => ex_callB R.n_isinstance PyProof.Rows.Boot.«isinstance» <| ea_cons <| ex_var ⟨rfl, rfl⟩ <| ea_cons <| ex_gty R.n_str PyProof.Rows.Boot.«str» <| ea_nil <| c_isi (k := true) (.ty _) .str (by rfl) <| ⟨rfl, true, rfl, h⟩) (fun h => ex_and1 <| ex_cmp <| ex_lcT [("cell", 1)] <| ei_str <| ex_var ⟨rfl, rfl⟩ <| ⟨a_value, rfl, compT chD chD (xs := (signsL a_value)) (ob h) trivial (fun x1 _ h s H C cl fp => gc_name  <| fun s H C cl fp => ef_one <| et_cmp <| ex_var ⟨rfl, rfl⟩ <| ex_bin <| ex_str <| ex_gstr R.g_SIGNS <| r_cat (ob h) fun z2 h => o_notInS <| ⟨_, rfl, cif h (fun h => fun s H C cl fp => ex_var ⟨rfl, rfl⟩ <| ⟨rfl, x1, rfl, h⟩) (fun h => ⟨rfl, h⟩)⟩) (fun l3 h => ex_lst <| ea_nil ⟨ln, r_eqNilT chD hu <| ⟨rfl, (l3.isEmpty), rfl, h⟩⟩)⟩)) fun z4 h => (dN [] h)

def S_is_write (R : Prg K mg) : Spc := fun ds M P E => ∃ (a_value : (Int × Str)) (a_length : Int), ds = [((pairD Dat.int Dat.str) a_value), (.int a_length)] ∧ (m_is_write a_value a_length).Out (fun r => P (.bl r) M) (fun x => E (exE R x) M)
theorem ok_is_write (R : Prg K mg) : FnD PR w K mg base 2 R.f_is_write R.d_is_write P_is_write (S_is_write R) := by
  refine fn_d false R.F_is_write sc_is_write (fun h => nomatch h) (fun ds M P E ⟨_, _, e, _⟩ => by rw [e]; rfl) fun cdv A outer s H E hr ds M Pd PE h => ?_
  obtain ⟨a_value, a_length, rfl, h⟩ := h
  have hu := hr.units
  refine WS.ends ?_
  refine ws_if <| et_w <| ew_or <| et_not <| et_val <| ex_callB R.n_isinstance PyProof.Rows.Boot.«isinstance» <| ea_cons <| ex_var ⟨rfl, rfl⟩ <| ea_cons <| ex_gty R.n_tuple PyProof.Rows.Boot.«tuple» <| ea_nil <| c_isi (k := true) (.ty _) .tup (by rfl) <| ⟨_, rfl, (fun z => absurd z (by decide)), fun _ => ew_or <| et_cmp <| ex_callB R.n_len PyProof.Rows.Boot.«len» <| ea_cons <| ex_var ⟨rfl, rfl⟩ <| ea_nil <| c_len_tup <| ex_int <| o_neI <| ⟨_, rfl, cif h (fun h => ⟨fun _ => ?g1, fun z => nomatch z⟩) (fun h => ew_or <| et_not <| et_val <| ex_callF (ok_is_whole R) (hr.mono (by decide)) R.m_is_whole R.F_is_whole R.b_is_whole <| ea_cons <| ex_ix <| ex_var ⟨rfl, rfl⟩ <| ex_int <| i_tup rfl <| ea_nil <| ⟨a_value.1, rfl, outU (ob h) (fun z2 h => ⟨_, rfl, cifN h (fun h => ew_or1 <| et_not <| et_val <| ex_callF (ok_is_content R) (hr.mono (by decide)) R.m_is_content R.F_is_content R.b_is_content <| ea_cons <| ex_ix <| ex_var ⟨rfl, rfl⟩ <| ex_int <| i_tup rfl <| ea_nil <| ⟨a_value.2, rfl, outU (ob h) (fun z4 h => ⟨_, rfl, cifN h (fun h => ?g8) (fun h => ?g5)⟩) (fun _ h => dX [] h)⟩) (fun h => ⟨fun _ => ?g3, fun z => nomatch z⟩)⟩) (fun _ h => dX [] h)⟩)⟩⟩
  case g1 =>
    exact ws_ret <| ex_bl <| (dN [] h)
  case g3 =>
    exact ws_ret <| ex_bl <| (dN [] h)
  case g5 =>
    exact ws_ret <| ex_bl <| (dN [] h)
  case g8 =>
    refine ws_nil ?_
    exact ws_ret <| exJQ Dat.bl (ob h) (fun _ h => exA h (fun _ h => ex_cmp <| ex_ix <| ex_var ⟨rfl, rfl⟩ <| ex_int <| i_tup rfl <| ex_int <| o_ge <| ⟨rfl, (decide ((0 : Int) ≤ a_value.1)), rfl, h⟩) (fun h => exA h (fun _ h => ex_cmp <| ex_ix <| ex_var ⟨rfl, rfl⟩ <| ex_int <| i_tup rfl <| ex_str <| o_neT <| ⟨rfl, (!decide (a_value.2 = ("" : Str))), rfl, h⟩) (fun h => ex_and1 <| ex_cmp <| ex_bin <| ex_ix <| ex_var ⟨rfl, rfl⟩ <| ex_int <| i_tup rfl <| ex_callB R.n_len PyProof.Rows.Boot.«len» <| ea_cons <| ex_ix <| ex_var ⟨rfl, rfl⟩ <| ex_int <| i_tup rfl <| ea_nil <| r_lenS (ob h) fun z6 h => o_add <| ex_var ⟨rfl, rfl⟩ <| o_le <| ⟨rfl, (decide ((a_value.1 + z6) ≤ a_length)), rfl, h⟩))) fun z7 h => (dN [] h)

def S_check_write (R : Prg K mg) : Spc := fun ds M P E => ∃ (a_value : (Int × Str)) (a_length : Int), ds = [((pairD Dat.int Dat.str) a_value), (.int a_length)] ∧ (m_check_write a_value a_length).Out (fun r => P .non M) (fun x => E (exE R x) M)
theorem ok_check_write (R : Prg K mg) : FnD PR w K mg base 3 R.f_check_write R.d_check_write P_check_write (S_check_write R) := by
  refine fn_d false R.F_check_write sc_check_write (fun h => nomatch h) (fun ds M P E ⟨_, _, e, _⟩ => by rw [e]; rfl) fun cdv A outer s H E hr ds M Pd PE h => ?_
  obtain ⟨a_value, a_length, rfl, h⟩ := h
  have hu := hr.units
  refine WS.ends ?_
  refine ws_if <| et_not <| et_val <| ex_callF (ok_is_write R) (hr.mono (by decide)) R.m_is_write R.F_is_write R.b_is_write <| ea_cons <| ex_var ⟨rfl, rfl⟩ <| ea_cons <| ex_var ⟨rfl, rfl⟩ <| ea_nil <| ⟨a_value, a_length, rfl, outU (ob h) (fun z1 h => ⟨_, rfl, cifN h (fun h => ?g3) (fun h => ?g2)⟩) (fun _ h => dX [] h)⟩
  case g2 =>
    exact ws_raise rfl R.S_InvalidWrite R.mc_InvalidWrite R.n_super hr <| ex_asA <| ex_var ⟨rfl, rfl⟩ <| ⟨anyD (clR R) (Any.tup [(Any.int a_value.1), (Any.str a_value.2)]), (by first | rfl | (simp only [anyD, anyDL, anyDL_map, List.map_map]; done) | (simp only [anyD, anyDL, anyDL_map, List.map_map]; rfl) | (simp only [anyD, anyDL, anyDL_map, List.map_map, stepA_comp, stepA_D]; rfl) | (simp only [anyD, anyDL, anyDL_map, List.map_map, stepA_comp, stepA_D]; done)), (dX [] h)⟩
  case g3 =>
    refine ws_nil ?_
    exact ws_nil (dN [] h)

def S_File_len (R : Prg K mg) : Spc := fun ds M P E => ∃ (a_self : Str), ds = [((fileD R) a_self)] ∧ (m_File_len a_self).Out (fun r => P (.int r) M) (fun x => E (exE R x) M)
theorem ok_File_len (R : Prg K mg) : FnD PR w K mg base 1 R.f_File_len R.d_File_len P_File_len (S_File_len R) := by
  refine fn_d false R.F_File_len sc_File_len (fun h => nomatch h) (fun ds M P E ⟨_, e, _⟩ => by rw [e]; rfl) fun cdv A outer s H E hr ds M Pd PE h => ?_
  obtain ⟨a_self, rfl, h⟩ := h
  have hu := hr.units
  refine WS.ends ?_
  exact ws_ret <| ex_callB R.n_len PyProof.Rows.Boot.«len» <| ea_cons <| ex_fld <| ex_var ⟨rfl, rfl⟩ <| ⟨_, ⟨_, R.L_File.cl, R.A_File_row, .inl ⟨_, _, rfl, rfl, rfl⟩⟩, ea_nil <| r_lenS (ob h) fun z1 h => (dN [] h)⟩

def S_History_init (R : Prg K mg) : Spc := fun ds M P E => ∃ (P_self dx_P_self : Addr) (a_file : Str) (a_writes : (Option (List (Int × Str)))) (M0 : Mem), ds = [.raw (.ref P_self), ((fileD R) a_file), ((optD (lstD (pairD Dat.int Dat.str))) a_writes)] ∧ M = (P_self, .ins R.C_History dx_P_self []) :: M0 ∧ (m_History_make a_file a_writes).Out (fun r => P .non ((P_self, .ins R.C_History dx_P_self [("start", ((fileD R) r.1)), ("rows", ((lstD (pairD Dat.int Dat.str)) r.2))]) :: M0)) (fun x => E (exE R x) M)
theorem ok_History_init (R : Prg K mg) : FnD PR w K mg base 4 R.f_History_init R.d_History_init P_History_init (S_History_init R) := by
  refine fn_dV false R.F_History_init sc_History_init (fun h => nomatch h) (fun ds M P E ⟨_, _, _, _, _, e, _⟩ => by rw [e]; rfl) fun cdv A outer s H E hr ds M Pd PE h => ?_
  obtain ⟨P_self, dx_P_self, a_file, a_writes, M0, rfl, rfl, h⟩ := h
  have hu := hr.units
  refine WS.ends ?_
  refine ws_expr <| ex_callF (ok_check_file R) (hr.mono (by decide)) R.m_check_file R.F_check_file R.b_check_file <| ea_cons <| ex_var ⟨rfl, rfl⟩ <| ea_nil <| ⟨a_file, rfl, outU (ob h) (fun z1 h => ?_) (fun _ h => dX [] h)⟩
  refine ws_set <| exJQ (lstD (pairD Dat.int Dat.str)) (ob h) (fun _ h => (match a_writes, h with | none, h => ex_if <| et_cmp <| ex_var ⟨rfl, rfl⟩ <| ex_non <| o_isNN ⟨_, rfl, (fun _ => ex_lst <| ea_nil ⟨ln, ⟨rfl, ([] : List (Int × Str)), rfl, h⟩⟩), fun z => nomatch z⟩ | some z2, h => ex_if <| et_cmp <| ex_var ⟨rfl, rfl⟩ <| ex_non <| o_isNA rfl ⟨_, rfl, (fun z => nomatch z), fun _ => ex_var ⟨rfl, rfl⟩ ⟨rfl, z2, rfl, h⟩⟩)) fun z3 h => ?_
  refine ws_if <| et_not <| et_val <| ex_callB R.n_isinstance PyProof.Rows.Boot.«isinstance» <| ea_cons <| ex_var ⟨rfl, rfl⟩ <| ea_cons <| ex_gty R.n_list PyProof.Rows.Boot.«list» <| ea_nil <| c_isi (k := true) (.ty _) .lst (by rfl) <| ⟨_, rfl, (fun z => absurd z (by decide)), fun _ => ?_⟩
  refine ws_nil ?_
  refine ws_forT <| ei_list <| ex_var ⟨rfl, rfl⟩ <| ⟨_, rfl, foldT (pairD Dat.int Dat.str) (xs := z3) (fun (s4 : Unit) τ M' => ∃ d4, [some (.raw (.ref P_self)), some ((fileD R) a_file), some ((optD (lstD (pairD Dat.int Dat.str))) a_writes), some ((lstD (pairD Dat.int Dat.str)) z3), d4] = τ ∧ (P_self, .ins R.C_History dx_P_self []) :: M0 = M') (ob h) ⟨_, rfl, rfl⟩ (fun _ _ _ _ => trivial) ?g11 ?g12⟩
  case g11 =>
    rintro x5 s4 _ _ N ⟨d4, rfl, rfl⟩ h
    refine gx_name  <| ?_
    refine ws_expr <| ex_callF (ok_check_write R) (hr.mono (by decide)) R.m_check_write R.F_check_write R.b_check_write <| ea_cons <| ex_var ⟨rfl, rfl⟩ <| ea_cons <| ex_callB R.n_len PyProof.Rows.Boot.«len» <| ea_cons <| ex_var ⟨rfl, rfl⟩ <| ea_nil <| c_lenOwn (ok_File_len R) (hr.mono (by decide)) R.M_File_len.1 R.M_File_len.2 R.b_File_len (fun _ => .inl ⟨_, _, rfl, by decide⟩) ⟨a_file, rfl, lenO (ob h) fun z8 h => ea_nil <| ⟨x5, z8, rfl, outU (ob h) (fun z9 h => ?_) (fun _ h => dX [] h)⟩⟩
    exact ws_nil ⟨(), ⟨_, rfl, rfl⟩, h⟩
  case g12 =>
    rintro s4 _ _ ⟨d4, rfl, rfl⟩ h
    refine ws_fldA <| ex_var ⟨rfl, rfl⟩ <| ex_var ⟨rfl, rfl⟩ ⟨P_self, R.C_History, dx_P_self, [], [("start", ((fileD R) a_file))], [], _, rfl, rfl, R.L_History.cl, R.A_History_start, (by simp), (by first | rfl | simp [putD]), ?_⟩
    refine ws_fldA <| ex_callTy R.n_list PyProof.Rows.Boot.«list» <| ea_cons <| ex_var ⟨rfl, rfl⟩ <| ea_nil <| c_listT (pairD Dat.int Dat.str) (xs := z3) <| ex_var ⟨rfl, rfl⟩ ⟨P_self, R.C_History, dx_P_self, [("start", ((fileD R) a_file))], [("start", ((fileD R) a_file)), ("rows", ((lstD (pairD Dat.int Dat.str)) z3))], [], _, rfl, rfl, R.L_History.cl, R.A_History_rows, (by simp), (by first | rfl | simp [putD]), ?_⟩
    exact ws_nil (dN [] h)
theorem mk_History {R : Prg K mg} {q dx : Addr} {a_file : Str} {a_writes : (Option (List (Int × Str)))} {M : Mem} {P : PK'} {E : XKx} {E1 : Er → Prop} {Q : (Str × List (Int × Str)) → Prop} (h : (m_History_make a_file a_writes).Out Q E1) (hk : ∀ r, Q r → P (historyD R r) M) (hx : ∀ x, E1 x → E (exE R x) ((q, .ins R.C_History dx []) :: M)) :
    AP (S_History_init R) [.raw (.ref q), ((fileD R) a_file), ((optD (lstD (pairD Dat.int Dat.str))) a_writes)] ((q, .ins R.C_History dx []) :: M) (fun d M2 => d = .non ∧ MadeP P q M2) E :=
  ap_all ⟨q, dx, a_file, a_writes, M, rfl, rfl, out_mono h (fun r hr => .mk ⟨rfl, made_ok (fs := [("start", ((fileD R) r.1)), ("rows", ((lstD (pairD Dat.int Dat.str)) r.2))]) (hk r hr)⟩) fun x h => .mk (hx x h)⟩

def S_History_init__c (R : Prg K mg) : Spc := fun ds M P E => ∃ (P_self dx_P_self : Addr) (a_file : Str) (a_writes : (Option (List (Int × Str)))) (M0 : Mem), ds = [.raw (.ref P_self), ((fileD R) a_file), ((optD (lstD (pairD Dat.int Dat.str))) a_writes)] ∧ M = (P_self, .ins R.C_History dx_P_self []) :: M0 ∧ (m_History_make a_file a_writes).Out (fun r => ∀ q9, P .non ((q9, .lst (r.2.map (pairD Dat.int Dat.str))) :: (P_self, .ins R.C_History dx_P_self [("start", ((fileD R) r.1)), ("rows", .raw (.ref q9))]) :: M0)) (fun x => E (exE R x) M)
theorem ok_History_init__c (R : Prg K mg) : FnD PR w K mg base 4 R.f_History_init R.d_History_init P_History_init (S_History_init__c R) := by
  refine fn_dV false R.F_History_init sc_History_init (fun h => nomatch h) (fun ds M P E ⟨_, _, _, _, _, e, _⟩ => by rw [e]; rfl) fun cdv A outer s H E hr ds M Pd PE h => ?_
  obtain ⟨P_self, dx_P_self, a_file, a_writes, M0, rfl, rfl, h⟩ := h
  have hu := hr.units
  refine WS.ends ?_
  refine ws_expr <| ex_callF (ok_check_file R) (hr.mono (by decide)) R.m_check_file R.F_check_file R.b_check_file <| ea_cons <| ex_var ⟨rfl, rfl⟩ <| ea_nil <| ⟨a_file, rfl, outU (ob h) (fun z1 h => ?_) (fun _ h => dX [] h)⟩
  refine ws_set <| exJQ (lstD (pairD Dat.int Dat.str)) (ob h) (fun _ h => (match a_writes, h with | none, h => ex_if <| et_cmp <| ex_var ⟨rfl, rfl⟩ <| ex_non <| o_isNN ⟨_, rfl, (fun _ => ex_lst <| ea_nil ⟨ln, ⟨rfl, ([] : List (Int × Str)), rfl, h⟩⟩), fun z => nomatch z⟩ | some z2, h => ex_if <| et_cmp <| ex_var ⟨rfl, rfl⟩ <| ex_non <| o_isNA rfl ⟨_, rfl, (fun z => nomatch z), fun _ => ex_var ⟨rfl, rfl⟩ ⟨rfl, z2, rfl, h⟩⟩)) fun z3 h => ?_
  refine ws_if <| et_not <| et_val <| ex_callB R.n_isinstance PyProof.Rows.Boot.«isinstance» <| ea_cons <| ex_var ⟨rfl, rfl⟩ <| ea_cons <| ex_gty R.n_list PyProof.Rows.Boot.«list» <| ea_nil <| c_isi (k := true) (.ty _) .lst (by rfl) <| ⟨_, rfl, (fun z => absurd z (by decide)), fun _ => ?_⟩
  refine ws_nil ?_
  refine ws_forT <| ei_list <| ex_var ⟨rfl, rfl⟩ <| ⟨_, rfl, foldT (pairD Dat.int Dat.str) (xs := z3) (fun (s4 : Unit) τ M' => ∃ d4, [some (.raw (.ref P_self)), some ((fileD R) a_file), some ((optD (lstD (pairD Dat.int Dat.str))) a_writes), some ((lstD (pairD Dat.int Dat.str)) z3), d4] = τ ∧ (P_self, .ins R.C_History dx_P_self []) :: M0 = M') (ob h) ⟨_, rfl, rfl⟩ (fun _ _ _ _ => trivial) ?g11 ?g12⟩
  case g11 =>
    rintro x5 s4 _ _ N ⟨d4, rfl, rfl⟩ h
    refine gx_name  <| ?_
    refine ws_expr <| ex_callF (ok_check_write R) (hr.mono (by decide)) R.m_check_write R.F_check_write R.b_check_write <| ea_cons <| ex_var ⟨rfl, rfl⟩ <| ea_cons <| ex_callB R.n_len PyProof.Rows.Boot.«len» <| ea_cons <| ex_var ⟨rfl, rfl⟩ <| ea_nil <| c_lenOwn (ok_File_len R) (hr.mono (by decide)) R.M_File_len.1 R.M_File_len.2 R.b_File_len (fun _ => .inl ⟨_, _, rfl, by decide⟩) ⟨a_file, rfl, lenO (ob h) fun z8 h => ea_nil <| ⟨x5, z8, rfl, outU (ob h) (fun z9 h => ?_) (fun _ h => dX [] h)⟩⟩
    exact ws_nil ⟨(), ⟨_, rfl, rfl⟩, h⟩
  case g12 =>
    rintro s4 _ _ ⟨d4, rfl, rfl⟩ h
    refine ws_fldA <| ex_var ⟨rfl, rfl⟩ <| ex_var ⟨rfl, rfl⟩ ⟨P_self, R.C_History, dx_P_self, [], [("start", ((fileD R) a_file))], [], _, rfl, rfl, R.L_History.cl, R.A_History_start, (by simp), (by first | rfl | simp [putD]), ?_⟩
    refine ws_fldA <| ex_callTy R.n_list PyProof.Rows.Boot.«list» <| ea_cons <| ex_var ⟨rfl, rfl⟩ <| ea_nil <| c_listNew (.inl rfl) fun q9 => ex_var ⟨rfl, rfl⟩ ⟨P_self, R.C_History, dx_P_self, [("start", ((fileD R) a_file))], [("start", ((fileD R) a_file)), ("rows", .raw (.ref q9))], [(q9, .lst (z3.map (pairD Dat.int Dat.str)))], _, rfl, rfl, R.L_History.cl, R.A_History_rows, (by simp), (by first | rfl | simp [putD]), ?_⟩
    exact ws_nil (dN [] (h q9))
theorem mk_History__c {R : Prg K mg} {q dx : Addr} {a_file : Str} {a_writes : (Option (List (Int × Str)))} {M : Mem} {P : PK'} {E : XKx} {E1 : Er → Prop} {Q : (Str × List (Int × Str)) → Prop} (h : (m_History_make a_file a_writes).Out Q E1) (hk : ∀ r, Q r → ∀ q9, P (.raw (.ref q)) ((q9, .lst (r.2.map (pairD Dat.int Dat.str))) :: (q, .ins R.C_History dx [("start", ((fileD R) r.1)), ("rows", .raw (.ref q9))]) :: M)) (hx : ∀ x, E1 x → E (exE R x) ((q, .ins R.C_History dx []) :: M)) :
    AP (S_History_init__c R) [.raw (.ref q), ((fileD R) a_file), ((optD (lstD (pairD Dat.int Dat.str))) a_writes)] ((q, .ins R.C_History dx []) :: M) (fun d M2 => d = .non ∧ MadeP P q M2) E :=
  ap_all ⟨q, dx, a_file, a_writes, M, rfl, rfl, out_mono h (fun r hr q9 => .mk ⟨rfl, .inl (hk r hr q9)⟩) fun x h => .mk (hx x h)⟩
def S_History_iadd (R : Prg K mg) : Spc := fun ds M P E => ∃ (q dx q9 : Addr) (a_self : (Str × List (Int × Str))) (a_write : (Int × Str)), ds = [.raw (.ref q), ((pairD Dat.int Dat.str) a_write)] ∧ M = [(q9, .lst (a_self.2.map (pairD Dat.int Dat.str))), (q, .ins R.C_History dx [("start", ((fileD R) a_self.1)), ("rows", .raw (.ref q9))])] ∧ (m_History_iadd a_self a_write).Out (fun r => P (.raw (.ref q)) [(q9, .lst (r.map (pairD Dat.int Dat.str))), (q, .ins R.C_History dx [("start", ((fileD R) a_self.1)), ("rows", .raw (.ref q9))])]) (fun x => E (exE R x) M)
theorem ok_History_iadd (R : Prg K mg) : FnD PR w K mg base 4 R.f_History_iadd R.d_History_iadd P_History_iadd (S_History_iadd R) := by
  refine fn_d true R.F_History_iadd sc_History_iadd (fun _ => ⟨"self", by decide, by rfl⟩) (fun ds M P E ⟨_, _, _, _, _, e, _⟩ => by rw [e]; rfl) fun cdv A outer s H E hr ds M Pd PE h => ?_
  obtain ⟨q, dx, q9, a_self, a_write, rfl, rfl, h⟩ := h
  have hu := hr.units
  refine WS.ends ?_
  refine ws_expr <| ex_callF (ok_check_write R) (hr.mono (by decide)) R.m_check_write R.F_check_write R.b_check_write <| ea_cons <| ex_var ⟨rfl, rfl⟩ <| ea_cons <| ex_callB R.n_len PyProof.Rows.Boot.«len» <| ea_cons <| ex_fld <| ex_var ⟨rfl, rfl⟩ <| ⟨_, ⟨_, R.L_History.cl, R.A_History_start, .inr ⟨q, dx, _, rfl, List.mem_cons_of_mem _ List.mem_cons_self, rfl⟩⟩, ea_nil <| c_lenOwn (ok_File_len R) (hr.mono (by decide)) R.M_File_len.1 R.M_File_len.2 R.b_File_len (fun _ => .inl ⟨_, _, rfl, by decide⟩) ⟨a_self.1, rfl, lenO (ob h) fun z1 h => ea_nil <| ⟨a_write, z1, rfl, outU (ob h) (fun z2 h => ?_) (fun _ h => dX [] h)⟩⟩⟩
  refine ws_expr <| r_app [] (pairD Dat.int Dat.str) (xs := a_self.2) <| ex_fld <| ex_var ⟨rfl, rfl⟩ <| ⟨_, ⟨_, R.L_History.cl, R.A_History_rows, .inr ⟨q, dx, _, rfl, List.mem_cons_of_mem _ List.mem_cons_self, rfl⟩⟩, ⟨rfl, rfl, ea_cons <| ex_var ⟨rfl, rfl⟩ <| ea_nil <| b_app [] (pairD Dat.int Dat.str) (xs := a_self.2) (x := a_write) (ob h) fun z3 h => ?_⟩⟩
  exact ws_ret <| ex_var ⟨rfl, rfl⟩ (dN [] h)

def S_File_init (R : Prg K mg) : Spc := fun ds M P E => ∃ q dx z M0, ds = [.raw (.ref q), .str z] ∧ M = (q, .ins R.C_File dx []) :: M0 ∧ (m_File_make z).Out (fun r => P .non ((q, .ins R.C_File dx [("row", .str r)]) :: M0)) (fun x => E (exE R x) M)
theorem ok_File_init (R : Prg K mg) : FnD PR w K mg base 2 R.f_File_init R.d_File_init P_File_init (S_File_init R) := by
  refine fn_dV false R.F_File_init sc_File_init (fun h => nomatch h) (fun ds M P E ⟨_, _, _, _, e, _⟩ => by rw [e]; rfl) fun cdv A outer s H E hr ds M Pd PE h => ?_
  obtain ⟨q, dx, z, M0, rfl, rfl, h⟩ := h
  refine ws_if <| et_not <| et_val <| ex_callF (ok_are_cells R) (hr.mono (by decide)) R.m_are_cells R.F_are_cells R.b_are_cells <| ea_cons <| ex_var ⟨rfl, rfl⟩ <| ea_nil ⟨z, rfl, outU (ob h) (fun b h => ⟨_, rfl, cifN h (fun h => ?g1) (fun h => ?g2)⟩) (fun _ h => h)⟩
  case g1 =>
    refine ws_nil ?_
    exact ws_fld <| ex_var ⟨rfl, rfl⟩ <| ex_var ⟨rfl, rfl⟩ ⟨q, _, dx, [], rfl, List.mem_cons_self, R.L_File.cl, R.A_File_row, by decide, ws_nil (by have h2 : Pd .non ((q, .ins R.C_File dx [("row", .str z)]) :: M0) := h; show Pd .non _; simpa [putC, putD] using h2)⟩
  case g2 => exact ws_raise rfl R.S_InvalidFile R.mc_InvalidFile R.n_super hr <| ex_var ⟨rfl, rfl⟩ h
theorem mk_File {R : Prg K mg} {q dx : Addr} {z : Str} {M : Mem} {P : PK'} {E : XKx} {E1 : Er → Prop} {Q : Str → Prop} (h : (m_File_make z).Out Q E1) (hk : ∀ r, Q r → P (fileD R r) M) (hx : ∀ x, E1 x → E (exE R x) ((q, .ins R.C_File dx []) :: M)) :
    AP (S_File_init R) [.raw (.ref q), .str z] ((q, .ins R.C_File dx []) :: M) (fun d M2 => d = .non ∧ MadeP P q M2) E :=
  ap_all ⟨q, dx, z, M, rfl, rfl, out_mono h (fun r hr => .mk ⟨rfl, made_ok (fs := [("row", .str r)]) (hk r hr)⟩) fun x h => .mk (hx x h)⟩

def S_is_whole__v3 (R : Prg K mg) : Spc := fun ds M P E => ∃ (a_value : (Option Int)), ds = [((optD Dat.int) a_value)] ∧ (m_is_whole__v3 a_value).Out (fun r => P (.bl r) M) (fun x => E (exE R x) M)
theorem ok_is_whole__v3 (R : Prg K mg) : FnD PR w K mg base 1 R.f_is_whole R.d_is_whole P_is_whole (S_is_whole__v3 R) := by
  refine fn_d false R.F_is_whole sc_is_whole (fun h => nomatch h) (fun ds M P E ⟨_, e, _⟩ => by rw [e]; rfl) fun cdv A outer s H E hr ds M Pd PE h => ?_
  obtain ⟨a_value, rfl, h⟩ := h
  have hu := hr.units
  refine WS.ends ?_
  exact ws_ret <| exJQ Dat.bl (ob h) (fun _ h => exA h (fun _ h => ex_callB R.n_isinstance PyProof.Rows.Boot.«isinstance» <| ea_cons <| ex_var ⟨rfl, rfl⟩ <| ea_cons <| ex_gty R.n_int PyProof.Rows.Boot.«int» <| ea_nil <| c_isiO (e := Dat.int) (.ty _) (fun _ => .int) (by rfl) (by rfl) <| ⟨rfl, (a_value.isSome), rfl, h⟩) (fun h => ex_and1 <| ex_not <| ex_callB R.n_isinstance PyProof.Rows.Boot.«isinstance» <| ea_cons <| ex_var ⟨rfl, rfl⟩ <| ea_cons <| ex_gty R.n_bool PyProof.Rows.Boot.«bool» <| ea_nil <| c_isiOF (e := Dat.int) (.ty _) (fun _ => .int) (by rfl) (by rfl) <| ⟨_, rfl, ⟨rfl, (!false), rfl, h⟩⟩)) fun z1 h => (dN [] h)

def S_is_write__v3 (R : Prg K mg) : Spc := fun ds M P E => ∃ (a_value : ((Option Int) × Str)) (a_length : Int), ds = [((pairD (optD Dat.int) Dat.str) a_value), (.int a_length)] ∧ (m_is_write__v3 a_value a_length).Out (fun r => P (.bl r) M) (fun x => E (exE R x) M)
theorem ok_is_write__v3 (R : Prg K mg) : FnD PR w K mg base 2 R.f_is_write R.d_is_write P_is_write (S_is_write__v3 R) := by
  refine fn_d false R.F_is_write sc_is_write (fun h => nomatch h) (fun ds M P E ⟨_, _, e, _⟩ => by rw [e]; rfl) fun cdv A outer s H E hr ds M Pd PE h => ?_
  obtain ⟨a_value, a_length, rfl, h⟩ := h
  have hu := hr.units
  refine WS.ends ?_
  refine ws_if <| et_w <| ew_or <| et_not <| et_val <| ex_callB R.n_isinstance PyProof.Rows.Boot.«isinstance» <| ea_cons <| ex_var ⟨rfl, rfl⟩ <| ea_cons <| ex_gty R.n_tuple PyProof.Rows.Boot.«tuple» <| ea_nil <| c_isi (k := true) (.ty _) .tup (by rfl) <| ⟨_, rfl, (fun z => absurd z (by decide)), fun _ => ew_or <| et_cmp <| ex_callB R.n_len PyProof.Rows.Boot.«len» <| ea_cons <| ex_var ⟨rfl, rfl⟩ <| ea_nil <| c_len_tup <| ex_int <| o_neI <| ⟨_, rfl, cif h (fun h => ⟨fun _ => ?g1, fun z => nomatch z⟩) (fun h => ew_or <| et_not <| et_val <| ex_callF (ok_is_whole__v3 R) (hr.mono (by decide)) R.m_is_whole R.F_is_whole R.b_is_whole <| ea_cons <| ex_ix <| ex_var ⟨rfl, rfl⟩ <| ex_int <| i_tup rfl <| ea_nil <| ⟨a_value.1, rfl, outU (ob h) (fun z2 h => ⟨_, rfl, cifN h (fun h => ew_or1 <| et_not <| et_val <| ex_callF (ok_is_content R) (hr.mono (by decide)) R.m_is_content R.F_is_content R.b_is_content <| ea_cons <| ex_ix <| ex_var ⟨rfl, rfl⟩ <| ex_int <| i_tup rfl <| ea_nil <| ⟨a_value.2, rfl, outU (ob h) (fun z4 h => ⟨_, rfl, cifN h (fun h => ?g10) (fun h => ?g5)⟩) (fun _ h => dX [] h)⟩) (fun h => ⟨fun _ => ?g3, fun z => nomatch z⟩)⟩) (fun _ h => dX [] h)⟩)⟩⟩
  case g1 =>
    exact ws_ret <| ex_bl <| (dN [] h)
  case g3 =>
    exact ws_ret <| ex_bl <| (dN [] h)
  case g5 =>
    exact ws_ret <| ex_bl <| (dN [] h)
  case g10 =>
    refine ws_nil ?_
    exact ws_ret <| exJQ Dat.bl (ob h) (fun _ h => exA h (fun _ h => ex_cmp <| ex_ix <| ex_var ⟨rfl, rfl⟩ <| ex_int <| i_tup rfl <| ex_int <| punE a_value.1 h fun z6 h => o_ge <| ⟨rfl, (decide ((0 : Int) ≤ z6)), rfl, h⟩) (fun h => exA h (fun _ h => ex_cmp <| ex_ix <| ex_var ⟨rfl, rfl⟩ <| ex_int <| i_tup rfl <| ex_str <| o_neT <| ⟨rfl, (!decide (a_value.2 = ("" : Str))), rfl, h⟩) (fun h => ex_and1 <| ex_cmp <| ex_bin <| ex_ix <| ex_var ⟨rfl, rfl⟩ <| ex_int <| i_tup rfl <| ex_callB R.n_len PyProof.Rows.Boot.«len» <| ea_cons <| ex_ix <| ex_var ⟨rfl, rfl⟩ <| ex_int <| i_tup rfl <| ea_nil <| r_lenS (ob h) fun z7 h => punE a_value.1 h fun z8 h => o_add <| ex_var ⟨rfl, rfl⟩ <| o_le <| ⟨rfl, (decide ((z8 + z7) ≤ a_length)), rfl, h⟩))) fun z9 h => (dN [] h)

def S_write_in (R : Prg K mg) : Spc := fun ds M P E => ∃ (a_line : Str) (a_length : Int), ds = [(.str a_line), (.int a_length)] ∧ (m_write_in a_line a_length).Out (fun r => P ((optD (pairD Dat.int Dat.str)) r) M) (fun x => E (exE R x) M)
theorem ok_write_in (R : Prg K mg) : FnD PR w K mg base 3 R.f_write_in R.d_write_in P_write_in (S_write_in R) := by
  refine fn_d false R.F_write_in sc_write_in (fun h => nomatch h) (fun ds M P E ⟨_, _, e, _⟩ => by rw [e]; rfl) fun cdv A outer s H E hr ds M Pd PE h => ?_
  obtain ⟨a_line, a_length, rfl, h⟩ := h
  have hu := hr.units
  refine WS.ends ?_
  refine ws_asg <| ex_part <| ex_var ⟨rfl, rfl⟩ <| ⟨.str, ea_cons <| ex_str <| ea_nil <| r_part (ob h) fun z1 h => gx_tup <| gxs_cons <| gx_name  <| gxs_cons <| gx_name  <| gxs_cons <| gx_name  <| gxs_nil <| ?_⟩
  refine ws_set <| ex_tup <| ea_cons <| ex_callF (ok_number_in R) (hr.mono (by decide)) R.m_number_in R.F_number_in R.b_number_in <| ea_cons <| ex_var ⟨rfl, rfl⟩ <| ea_nil <| ⟨z1.1, rfl, outU (ob h) (fun z2 h => ea_cons <| ex_var ⟨rfl, rfl⟩ <| ea_nil ⟨ln, ?_⟩) (fun _ h => dX [] h)⟩
  exact ws_ret <| exJQ (optD (pairD Dat.int Dat.str)) (ob h) (fun _ h => ex_if <| et_val <| ex_callF (ok_is_write__v3 R) (hr.mono (by decide)) R.m_is_write R.F_is_write R.b_is_write <| ea_cons <| ex_var ⟨rfl, rfl⟩ <| ea_cons <| ex_var ⟨rfl, rfl⟩ <| ea_nil <| ⟨(z2, z1.2.2), a_length, rfl, outU (ob h) (fun z3 h => ⟨_, rfl, cif h (fun h => ex_var ⟨rfl, rfl⟩ <| punE z2 h fun z4 h => ⟨rfl, (some (z4, z1.2.2)), rfl, h⟩) (fun h => ex_non <| ⟨rfl, none, rfl, h⟩)⟩) (fun _ h => dX [] h)⟩) fun z5 h => (dN [] h)

def S_read_history (R : Prg K mg) : Spc := fun ds M P E => ∃ (a_text : Str), ds = [(.str a_text)] ∧ (m_read_history a_text).Out (fun r => P ((historyD R) r) M) (fun x => E (exE R x) M)
theorem ok_read_history (R : Prg K mg) : FnD PR w K mg base 6 R.f_read_history R.d_read_history P_read_history (S_read_history R) := by
  refine fn_d false R.F_read_history sc_read_history (fun h => nomatch h) (fun ds M P E ⟨_, e, _⟩ => by rw [e]; rfl) fun cdv A outer s H E hr ds M Pd PE h => ?_
  obtain ⟨a_text, rfl, h⟩ := h
  have hu := hr.units
  refine WS.ends ?_
  refine ws_if <| et_not <| et_val <| ex_callB R.n_isinstance PyProof.Rows.Boot.«isinstance» <| ea_cons <| ex_var ⟨rfl, rfl⟩ <| ea_cons <| ex_gty R.n_str PyProof.Rows.Boot.«str» <| ea_nil <| c_isi (k := true) (.ty _) .str (by rfl) <| ⟨_, rfl, (fun z => absurd z (by decide)), fun _ => ?_⟩
  refine ws_nil ?_
  refine ws_set <| ex_split <| ex_var ⟨rfl, rfl⟩ <| ⟨.str, ea_cons <| ex_str <| ea_nil <| r_split (ob h) fun z1 h => ?_⟩
  refine ws_if <| et_not <| et_val <| ex_callF (ok_are_cells R) (hr.mono (by decide)) R.m_are_cells R.F_are_cells R.b_are_cells <| ea_cons <| ex_ix <| ex_var ⟨rfl, rfl⟩ <| ex_int <| r_ix Dat.str (xs := z1) (ob h) fun z2 h => ea_nil <| ⟨z2, rfl, outU (ob h) (fun z3 h => ⟨_, rfl, cifN h (fun h => ?g29) (fun h => ?g4)⟩) (fun _ h => dX [] h)⟩
  case g4 =>
    exact ws_raise rfl R.S_InvalidText R.mc_InvalidText R.n_super hr <| ex_asA <| ex_int <| ⟨anyD (clR R) (Any.int (1 : Int)), (by first | rfl | (simp only [anyD, anyDL, anyDL_map, List.map_map]; done) | (simp only [anyD, anyDL, anyDL_map, List.map_map]; rfl) | (simp only [anyD, anyDL, anyDL_map, List.map_map, stepA_comp, stepA_D]; rfl) | (simp only [anyD, anyDL, anyDL_map, List.map_map, stepA_comp, stepA_D]; done)), (dX [] h)⟩
  case g29 =>
    refine ws_nil ?_
    refine ws_set <| ex_make R.K_History (ok_History_init__c R) (hr.mono (by decide)) R.mc_History R.b1_History_init (.cons (show RelV .non _ from rfl) .nil) (fun _ => .cons den_non .nil) <| ea_cons <| ex_make R.K_File (ok_File_init R) (hr.mono (by decide)) R.mc_File R.b_File_init .nil (fun _ => .nil) <| ea_cons <| ex_ix <| ex_var ⟨rfl, rfl⟩ <| ex_int <| r_ix Dat.str (xs := z1) (ob h) fun z11 h => ea_nil <| fun q dx _ _ _ => mk_File (ob h) (fun z12 h => ea_nil <| fun q8 dx_q8 _ _ _ => mk_History__c (ob h) (fun z10 h q9 => ?_) (fun _ h => dX [_] h)) (fun _ h => dX [_] h)
    refine ws_forT <| ei_enumT Dat.str R.n_enumerate <| ex_sl <| ex_var ⟨rfl, rfl⟩ <| ep_some <| ex_int <| ⟨_, rfl, ep_none <| l_lstT Dat.str (xs := z1) <| ⟨(cutD z1 (some (1 : Int)) none), rfl, foldT (pairD Dat.int Dat.str) (xs := (enumL (cutD z1 (some (1 : Int)) none))) (fun (s13 : (List (Int × Str))) τ M' => ∃ d3 d4 d5, [some (.str a_text), some ((lstD Dat.str) z1), some (.raw (.ref q8)), d3, d4, d5] = τ ∧ (q9, .lst (s13.map (pairD Dat.int Dat.str))) :: (q8, .ins R.C_History dx_q8 [("start", ((fileD R) z10.1)), ("rows", (Dat.raw (.ref q9)))]) :: M = M') (ob h) ⟨_, _, _, rfl, rfl⟩ (fun _ _ _ _ => trivial) ?g26 ?g27⟩⟩
    case g26 =>
      rintro x14 s13 _ _ N ⟨d3, d4, d5, rfl, rfl⟩ h
      refine gx_tup <| gxs_cons <| gx_name  <| gxs_cons <| gx_name  <| gxs_nil <| ?_
      refine ws_set <| ex_callF (ok_write_in R) (hr.mono (by decide)) R.m_write_in R.F_write_in R.b_write_in <| ea_cons <| ex_var ⟨rfl, rfl⟩ <| ea_cons <| ex_callB R.n_len PyProof.Rows.Boot.«len» <| ea_cons <| ex_ix <| ex_var ⟨rfl, rfl⟩ <| ex_int <| r_ix Dat.str (xs := z1) (ob h) fun z17 h => ea_nil <| r_lenS (ob h) fun z18 h => ea_nil <| ⟨x14.2, z18, rfl, outU (ob h) (fun z19 h => ?_) (fun _ h => dX [_, _] h)⟩
      refine ws_if <| et_cmp <| ex_var ⟨rfl, rfl⟩ <| ex_non <| o_isNT (pairD Dat.int Dat.str) (fun _ => ⟨rfl, fun _ z => nomatch z⟩) <| ⟨_, rfl, cif h (fun h => ?g20) (fun h => ?g24)⟩
      case g20 =>
        exact ws_raise rfl R.S_InvalidText R.mc_InvalidText R.n_super hr <| ex_asA <| ex_bin <| ex_var ⟨rfl, rfl⟩ <| ex_int <| o_add <| ⟨anyD (clR R) (Any.int (x14.1 + (2 : Int))), (by first | rfl | (simp only [anyD, anyDL, anyDL_map, List.map_map]; done) | (simp only [anyD, anyDL, anyDL_map, List.map_map]; rfl) | (simp only [anyD, anyDL, anyDL_map, List.map_map, stepA_comp, stepA_D]; rfl) | (simp only [anyD, anyDL, anyDL_map, List.map_map, stepA_comp, stepA_D]; done)), (dX [_, _] h)⟩
      case g24 =>
        refine ws_nil ?_
        refine ws_augOwn (ok_History_iadd R) (hr.mono (by decide)) R.M_History_iadd R.b_History_iadd R.sf_History rfl <| ex_var ⟨rfl, rfl⟩ <| (punE z19 h fun z21 h => ⟨.inr ⟨_, _, _, rfl, (List.mem_cons_of_mem _ List.mem_cons_self), (show ("__eq__" : Str) ∉ (["start", "rows"] : List Str) by decide)⟩, ap2 [] ⟨q8, dx_q8, q9, (z10.1, s13), z21, rfl, rfl, outH2 (ne_out (E' := fun _ => False) (ob h)) (fun z22 h => ⟨⟨_, rfl⟩, ?_⟩) (fun _ h => h.elim)⟩⟩)
        exact ws_nil ⟨z22, ⟨_, _, _, rfl, rfl⟩, h⟩
    case g27 =>
      rintro s13 _ _ ⟨d3, d4, d5, rfl, rfl⟩ h
      exact ws_ret <| ex_frzH <| ex_var ⟨rfl, rfl⟩ ⟨q8, dx_q8, q9, _, _, _, _, _, rfl, frz2 [], (dN [] h)⟩

def S_law_spot (R : Prg K mg) : Spc := fun ds M P E => ∃ (a_way : Int) (a_value : Str), ds = [(.int a_way), (.str a_value)] ∧ (m_law_spot a_way a_value).Out (fun r => P ((lstD (anyD (clR R))) r) M) (fun x => E (exE R x) M)
theorem ok_law_spot (R : Prg K mg) : FnD PR w K mg base 7 R.f_law_spot R.d_law_spot P_law_spot (S_law_spot R) := by
  refine fn_d false R.F_law_spot sc_law_spot (fun h => nomatch h) (fun ds M P E ⟨_, _, e, _⟩ => by rw [e]; rfl) fun cdv A outer s H E hr ds M Pd PE h => ?_
  obtain ⟨a_way, a_value, rfl, h⟩ := h
  have hu := hr.units
  refine WS.ends ?_
  refine ws_set <| ex_lst <| ea_cons <| ex_asA <| ex_str <| ⟨anyD (clR R) (Any.str ("read" : Str)), (by first | rfl | (simp only [anyD, anyDL, anyDL_map, List.map_map]; done) | (simp only [anyD, anyDL, anyDL_map, List.map_map]; rfl) | (simp only [anyD, anyDL, anyDL_map, List.map_map, stepA_comp, stepA_D]; rfl) | (simp only [anyD, anyDL, anyDL_map, List.map_map, stepA_comp, stepA_D]; done)), ea_nil ⟨ln, ?_⟩⟩
  refine ws_tryJ (exE R) (fun Q τ M' => ∃ s1 : (List Any), ∃ d3, [some (.int a_way), some (.str a_value), some ((lstD (anyD (clR R))) s1), d3] = τ ∧ M = M' ∧ Q s1) (l₀ := ⟨_, _, _, _, _, _, _⟩) (ls := []) (ob h) rfl rfl (.cons ⟨rfl, (by show (("InvalidText" : Str) == ("__debug__" : Str)) = false; decide), .inl R.mc_InvalidText⟩ rfl rfl (.nil)) (fun h pn xe po => ?b12) ?x13 ?k14
  case b12 =>
    refine ws_ifQ (fun Q τ M' => ∃ s2 : Unit, ∃ d3, [some (.int a_way), some (.str a_value), some ((lstD (anyD (clR R))) ([(Any.str ("read" : Str))] : List Any)), d3] = τ ∧ M = M' ∧ Q s2) (ob h) (fun _ h => et_cmp <| ex_var ⟨rfl, rfl⟩ <| ex_int <| o_eqI <| ⟨_, rfl, cif h (fun h => ?g5) (fun h => ?g8)⟩) ?k9
    case g5 =>
      refine ws_expr <| ex_callF (ok_read_script R) (hr.mono (by decide)) R.m_read_script R.F_read_script R.b_read_script <| ea_cons <| ex_var ⟨rfl, rfl⟩ <| ea_nil <| ⟨a_value, rfl, outU (ob h) (fun z3 h => ?_) (fun _ h => tX [] h)⟩
      exact ws_nil ⟨(), _, rfl, rfl, h⟩
    case g8 =>
      refine ws_expr <| ex_callF (ok_read_history R) (hr.mono (by decide)) R.m_read_history R.F_read_history R.b_read_history <| ea_cons <| ex_var ⟨rfl, rfl⟩ <| ea_nil <| ⟨a_value, rfl, outU (ob h) (fun z6 h => ?_) (fun _ h => tX [] h)⟩
      exact ws_nil ⟨(), _, rfl, rfl, h⟩
    case k9 =>
      rintro _ _ ⟨s2, d3, rfl, rfl, h⟩
      exact ws_nil ⟨([(Any.str ("read" : Str))] : List Any), _, rfl, rfl, h⟩
  case x13 =>
    rintro ⟨kk, x10⟩ h
    cases kk with
    | file =>
      refine ⟨false, R.e_InvalidFile_InvalidText, (fun z => nomatch z), fun _ => (fun _ h => dX [] h) _ h⟩
    | number =>
      refine ⟨false, R.e_InvalidNumber_InvalidText, (fun z => nomatch z), fun _ => (fun _ h => dX [] h) _ h⟩
    | script =>
      refine ⟨false, R.e_InvalidScript_InvalidText, (fun z => nomatch z), fun _ => (fun _ h => dX [] h) _ h⟩
    | list =>
      refine ⟨false, R.e_InvalidList_InvalidText, (fun z => nomatch z), fun _ => (fun _ h => dX [] h) _ h⟩
    | write =>
      refine ⟨false, R.e_InvalidWrite_InvalidText, (fun z => nomatch z), fun _ => (fun _ h => dX [] h) _ h⟩
    | text =>
      refine ⟨true, R.e_InvalidText_InvalidText, fun _ => ⟨List.cons_ne_nil _ _, fun a dd oe pn hz hv => ?_⟩, fun z => nomatch z⟩
      refine ws_set <| ex_lst <| ea_cons <| ex_asA <| ex_ev R.x_InvalidText R.S_InvalidText.nf hz hv ⟨rfl, rfl⟩ rfl <| ⟨_, rfl, ea_nil ⟨ln, ?_⟩⟩
      exact ws_nil ⟨([x10] : List Any), _, rfl, rfl, h⟩
    | _ => exact h.elim
  case k14 =>
    rintro _ _ ⟨s1, d3, rfl, rfl, h⟩
    exact ws_ret <| ex_asA <| ex_var ⟨rfl, rfl⟩ <| ⟨_, rfl, (dN [] h)⟩

def S_law_all_told (R : Prg K mg) : Spc := fun ds M P E => ∃ (P_spring : Addr) (a_spring : (List Int)) (a_way : Int) (a_lines : (List Str)) (a_first : Int) (a_bad : (List Str)), ds = [.raw (.ref P_spring), (.int a_way), ((lstD Dat.str) a_lines), (.int a_first), ((lstD Dat.str) a_bad)] ∧ M = [(P_spring, .lst (a_spring.map Dat.int))] ∧ (m_law_all_told a_spring a_way a_lines a_first a_bad).Out (fun r => P (.bl r.1) [(P_spring, .lst (r.2.map Dat.int))]) (fun _ => False)
theorem ok_law_all_told (R : Prg K mg) : FnD PR w K mg base 8 R.f_law_all_told R.d_law_all_told P_law_all_told (S_law_all_told R) := by
  refine fn_d false R.F_law_all_told sc_law_all_told (fun h => nomatch h) (fun ds M P E ⟨_, _, _, _, _, _, e, _⟩ => by rw [e]; rfl) fun cdv A outer s H E hr ds M Pd PE h => ?_
  obtain ⟨P_spring, a_spring, a_way, a_lines, a_first, a_bad, rfl, rfl, h⟩ := h
  have hu := hr.units
  refine WS.ends ?_
  refine ws_forT <| ei_list <| ex_var ⟨rfl, rfl⟩ <| ⟨_, rfl, forT Dat.str (xs := a_bad) (fun (s1 : (List Int)) τ M' => ∃ d5 d6 d7 d8, [some (.raw (.ref P_spring)), some (.int a_way), some ((lstD Dat.str) a_lines), some (.int a_first), some ((lstD Dat.str) a_bad), d5, d6, d7, d8] = τ ∧ (P_spring, .lst (s1.map Dat.int)) :: [] = M') (ob h) ⟨_, _, _, _, rfl, rfl⟩ (fun _ _ _ _ => trivial) ?g19 ?g20⟩
  case g19 =>
    rintro x2 s1 _ _ N ⟨d5, d6, d7, d8, rfl, rfl⟩ h hrt3
    refine gx_name  <| ?_
    refine ws_set <| ex_bin <| ex_var ⟨rfl, rfl⟩ <| ex_callA (ok_law_sip R) (hr.mono (by decide)) R.m_law_sip R.F_law_sip R.b_law_sip <| ea_cons <| ex_var ⟨rfl, rfl⟩ <| ea_cons <| ex_bin <| ex_bin <| ex_callB R.n_len PyProof.Rows.Boot.«len» <| ea_cons <| ex_var ⟨rfl, rfl⟩ <| ea_nil <| c_lenT Dat.str (xs := a_lines) <| ex_int <| o_add <| ex_var ⟨rfl, rfl⟩ <| o_sub <| ea_nil <| apC [] ⟨_, s1, (((a_lines.length : Int) + (1 : Int)) - a_first), rfl, rfl, outC1 (ob h) (fun z5 h => o_add <| ?_) (fun _ h => h)⟩
    refine ws_set <| ex_ix <| ex_lst <| ea_cons <| ex_sl <| ex_var ⟨rfl, rfl⟩ <| ep_some <| ex_var ⟨rfl, rfl⟩ <| ⟨_, rfl, ep_none <| l_lstT Dat.str (xs := a_lines) <| ea_cons <| ex_sl <| ex_var ⟨rfl, rfl⟩ <| ep_some <| ex_bin <| ex_var ⟨rfl, rfl⟩ <| ex_int <| o_add <| ⟨_, rfl, ep_none <| l_lstT Dat.str (xs := a_lines) <| ea_cons <| ex_lst <| ea_nil ⟨ln, ea_cons <| ex_lst <| ea_cons <| ex_str <| ea_cons <| ex_str <| ea_nil ⟨ln, ea_nil ⟨ln, ex_callA (ok_law_sip R) (hr.mono (by decide)) R.m_law_sip R.F_law_sip R.b_law_sip <| ea_cons <| ex_var ⟨rfl, rfl⟩ <| ea_cons <| ex_int <| ea_nil <| apC [] ⟨_, z5.2, (4 : Int), rfl, rfl, outC1 (ob h) (fun z6 h => r_ix (lstD Dat.str) (xs := ([(cutD a_lines (some (a_first + z5.1)) none), (cutD a_lines (some ((a_first + z5.1) + (1 : Int))) none), ([] : (List Str)), ([("x" : Str), ("" : Str)] : List Str)] : List (List Str))) (ob h) fun z7 h => ?_) (fun _ h => h)⟩⟩⟩⟩⟩⟩
    refine ws_set <| ex_join <| ex_str <| ⟨.str, ea_cons <| ex_bin <| ex_bin <| ex_sl <| ex_var ⟨rfl, rfl⟩ <| ep_none <| ep_some <| ex_var ⟨rfl, rfl⟩ <| ⟨_, rfl, l_lstT Dat.str (xs := a_lines) <| ex_lst <| ea_cons <| ex_var ⟨rfl, rfl⟩ <| ea_nil ⟨ln, r_catL Dat.str (xs := (cutD a_lines none (some (a_first + z5.1)))) (ys := ([x2] : List Str)) (ob h) fun z8 h => ex_var ⟨rfl, rfl⟩ <| r_catL Dat.str (xs := z8) (ys := z7) (ob h) fun z9 h => ea_nil <| r_joinS (xs := z9) (ob h) fun z10 h => ?_⟩⟩⟩
    refine ws_if <| etJQ (ob h) (fun _ h => et_w <| ewA h (fun _ h => et_cmp <| ex_var ⟨rfl, rfl⟩ <| ex_str <| o_neT <| ⟨_, rfl, rfl, h⟩) (fun h => ew_and1 <| et_cmp <| ex_callF (ok_law_spot R) (hr.mono (by decide)) R.m_law_spot R.F_law_spot R.b_law_spot <| ea_cons <| ex_var ⟨rfl, rfl⟩ <| ea_cons <| ex_var ⟨rfl, rfl⟩ <| ea_nil <| ⟨a_way, z10, rfl, outU (ob h) (fun z11 h => ex_lst <| ea_cons <| ex_asA <| ex_bin <| ex_var ⟨rfl, rfl⟩ <| ex_int <| o_add <| ⟨anyD (clR R) (Any.int ((a_first + z5.1) + (1 : Int))), (by first | rfl | (simp only [anyD, anyDL, anyDL_map, List.map_map]; done) | (simp only [anyD, anyDL, anyDL_map, List.map_map]; rfl) | (simp only [anyD, anyDL, anyDL_map, List.map_map, stepA_comp, stepA_D]; rfl) | (simp only [anyD, anyDL, anyDL_map, List.map_map, stepA_comp, stepA_D]; done)), ea_nil ⟨ln, r_neAL (xs := z11) (ys := ([(Any.int ((a_first + z5.1) + (1 : Int)))] : List Any)) hu (ob h) fun z12 h => ⟨_, rfl, rfl, h⟩⟩⟩) (fun _ h => h.elim)⟩)) fun t13 h => cif h (fun h => ?g14) (fun h => ?g15)
    case g14 =>
      exact ws_ret <| ex_bl <| (dN [] (hrt3 _ h))
    case g15 =>
      refine ws_nil ?_
      exact ws_nil ⟨z6.2, ⟨_, _, _, _, rfl, rfl⟩, h⟩
  case g20 =>
    rintro s1 _ _ ⟨d5, d6, d7, d8, rfl, rfl⟩ h
    replace h := finO h
    exact ws_ret <| ex_bl <| (dN [] h)

def S_law_no_steps (R : Prg K mg) : Spc := fun ds M P E => ∃ (a_line : Str), ds = [(.str a_line)] ∧ (m_law_no_steps a_line).Out (fun r => P ((lstD Dat.str) r) M) (fun x => E (exE R x) M)
theorem ok_law_no_steps (R : Prg K mg) : FnD PR w K mg base 1 R.f_law_no_steps R.d_law_no_steps P_law_no_steps (S_law_no_steps R) := by
  refine fn_d false R.F_law_no_steps sc_law_no_steps (fun h => nomatch h) (fun ds M P E ⟨_, e, _⟩ => by rw [e]; rfl) fun cdv A outer s H E hr ds M Pd PE h => ?_
  obtain ⟨a_line, rfl, h⟩ := h
  have hu := hr.units
  refine WS.ends ?_
  refine ws_set <| ex_lst <| ea_cons <| ex_str <| ea_cons <| ex_str <| ea_cons <| ex_str <| ea_cons <| ex_str <| ea_cons <| ex_str <| ea_cons <| ex_str <| ea_cons <| ex_str <| ea_cons <| ex_str <| ea_cons <| ex_str <| ea_cons <| ex_str <| ea_cons <| ex_str <| ea_nil ⟨ln, ?_⟩
  refine ws_set <| ex_bin <| ex_var ⟨rfl, rfl⟩ <| ex_lst <| ea_cons <| ex_str <| ea_cons <| ex_str <| ea_cons <| ex_str <| ea_cons <| ex_str <| ea_cons <| ex_str <| ea_cons <| ex_str <| ea_cons <| ex_str <| ea_cons <| ex_str <| ea_nil ⟨ln, r_catL Dat.str (xs := ([("" : Str), (" " : Str), ("Full" : Str), ("full " : Str), (" full" : Str), ("full 1" : Str), ("ful" : Str), ("keep" : Str), ("keep " : Str), ("keep 0" : Str), ("keep 04" : Str)] : List Str)) (ys := ([("keep -1" : Str), ("keep +1" : Str), ("keep  4" : Str), ("keep 4 " : Str), (" keep 4" : Str), ("keep 4.0" : Str), ("keep a" : Str), ("Keep 4" : Str)] : List Str)) (ob h) fun z1 h => ?_⟩
  refine ws_set <| ex_bin <| ex_var ⟨rfl, rfl⟩ <| ex_lst <| ea_cons <| ex_str <| ea_cons <| ex_str <| ea_cons <| ex_str <| ea_cons <| ex_str <| ea_cons <| ex_str <| ea_cons <| ex_str <| ea_cons <| ex_str <| ea_cons <| ex_str <| ea_cons <| ex_str <| ea_nil ⟨ln, r_catL Dat.str (xs := z1) (ys := ([("kepp 4" : Str), ("lean" : Str), ("lean 0" : Str), ("dig 00" : Str), ("dig" : Str), ("dig 1 2" : Str), ("dig 1,2" : Str), ("lean_4" : Str), ("keep4" : Str)] : List Str)) (ob h) fun z2 h => ?_⟩
  refine ws_set <| ex_bin <| ex_var ⟨rfl, rfl⟩ <| ex_lst <| ea_cons <| ex_str <| ea_cons <| ex_str <| ea_cons <| ex_str <| ea_cons <| ex_str <| ea_cons <| ex_str <| ea_cons <| ex_str <| ea_cons <| ex_str <| ea_cons <| ex_str <| ea_nil ⟨ln, r_catL Dat.str (xs := z2) (ys := ([("lean 04" : Str), ("dig 1_0" : Str), ("dig 04" : Str), ("lean +4" : Str), ("lean -4" : Str), ("dig 0" : Str), ("dig " : Str), ("lean " : Str)] : List Str)) (ob h) fun z3 h => ?_⟩
  exact ws_ret <| ex_bin <| ex_var ⟨rfl, rfl⟩ <| ex_lst <| ea_cons <| ex_str <| ea_cons <| ex_str <| ea_cons <| ex_bin <| ex_var ⟨rfl, rfl⟩ <| ex_str <| r_cat (ob h) fun z4 h => ea_cons <| ex_bin <| ex_var ⟨rfl, rfl⟩ <| ex_str <| r_cat (ob h) fun z5 h => ea_cons <| ex_bin <| ex_str <| ex_var ⟨rfl, rfl⟩ <| r_cat (ob h) fun z6 h => ea_nil ⟨ln, r_catL Dat.str (xs := z3) (ys := ([("4 keep" : Str), ("keep 1_0" : Str), z4, z5, z6] : List Str)) (ob h) fun z7 h => (dN [] h)⟩

def S_law_cells (R : Prg K mg) : Spc := fun ds M P E => ∃ (P_spring : Addr) (a_spring : (List Int)) (a_length : Int), ds = [.raw (.ref P_spring), (.int a_length)] ∧ M = [(P_spring, .lst (a_spring.map Dat.int))] ∧ (m_law_cells a_spring a_length).Out (fun r => P (.str r.1) [(P_spring, .lst (r.2.map Dat.int))]) (fun _ => False)
theorem ok_law_cells (R : Prg K mg) : FnD PR w K mg base 2 R.f_law_cells R.d_law_cells P_law_cells (S_law_cells R) := by
  refine fn_d false R.F_law_cells sc_law_cells (fun h => nomatch h) (fun ds M P E ⟨_, _, _, e, _⟩ => by rw [e]; rfl) fun cdv A outer s H E hr ds M Pd PE h => ?_
  obtain ⟨P_spring, a_spring, a_length, rfl, rfl, h⟩ := h
  have hu := hr.units
  refine WS.ends ?_
  refine ws_set <| ex_ix <| ex_lst <| ea_cons <| ex_str <| ea_cons <| ex_str <| ea_cons <| ex_str <| ea_cons <| ex_str <| ea_nil ⟨ln, ex_callA (ok_law_sip R) (hr.mono (by decide)) R.m_law_sip R.F_law_sip R.b_law_sip <| ea_cons <| ex_var ⟨rfl, rfl⟩ <| ea_cons <| ex_int <| ea_nil <| apC [] ⟨_, a_spring, (4 : Int), rfl, rfl, outC1 (ob h) (fun z1 h => r_ix Dat.str (xs := ([("..0ab" : Str), (".0abcd" : Str), ("aab0." : Str), ("abcdefghijklmnopqrstuvwxyz.0" : Str)] : List Str)) (ob h) fun z2 h => ?_) (fun _ h => h)⟩⟩
  exact ws_ret <| ex_join <| ex_str <| ⟨.str, ea_cons <| ex_lcT [("at", 3)] <| ei_rng1 R.n_range <| ex_var ⟨rfl, rfl⟩ <| ⟨a_length, rfl, (gd (ob h)).1, have h := (gd (ob h)).2; compST Dat.int chD (xs := (rangeL 0 (Int.toNat a_length))) (fun (s5 : (List Int)) => (P_spring, .lst (s5.map Dat.int)) :: []) (ob h) (fun _ => trivial) (fun x4 s5 _ h s H C cl fp => gc_name  <| fun s H C cl fp => ef_nil ⟨fun _ s H C cl fp => ex_ix <| ex_var ⟨rfl, rfl⟩ <| ex_callA (ok_law_sip R) (hr.mono (by decide)) R.m_law_sip R.F_law_sip R.b_law_sip <| ea_cons <| ex_var ⟨rfl, rfl⟩ <| ea_cons <| ex_callB R.n_len PyProof.Rows.Boot.«len» <| ea_cons <| ex_var ⟨rfl, rfl⟩ <| ea_nil <| r_lenS (ob h) fun z6 h => ea_nil <| apC [] ⟨_, s5, z6, rfl, rfl, outC1 (ob h) (fun z7 h => r_ixS (ob h) fun z8 h => ⟨z8, z7.2, rfl, rfl, h⟩) (fun _ h => h)⟩, fun z => nomatch z⟩) (fun l9 h => ea_nil <| r_joinC (xs := l9.1) (ob h) fun z10 h => (dN [] h))⟩⟩

def S_law_text (R : Prg K mg) : Spc := fun ds M P E => ∃ (P_spring : Addr) (a_spring : (List Int)) (a_length : Int), ds = [.raw (.ref P_spring), (.int a_length)] ∧ M = [(P_spring, .lst (a_spring.map Dat.int))] ∧ (m_law_text a_spring a_length).Out (fun r => P (.str r.1) [(P_spring, .lst (r.2.map Dat.int))]) (fun _ => False)
theorem ok_law_text (R : Prg K mg) : FnD PR w K mg base 2 R.f_law_text R.d_law_text P_law_text (S_law_text R) := by
  refine fn_d false R.F_law_text sc_law_text (fun h => nomatch h) (fun ds M P E ⟨_, _, _, e, _⟩ => by rw [e]; rfl) fun cdv A outer s H E hr ds M Pd PE h => ?_
  obtain ⟨P_spring, a_spring, a_length, rfl, rfl, h⟩ := h
  have hu := hr.units
  refine WS.ends ?_
  refine ws_set <| ex_ix <| ex_lst <| ea_cons <| ex_str <| ea_cons <| ex_str <| ea_cons <| ex_str <| ea_cons <| ex_str <| ea_nil ⟨ln, ex_callA (ok_law_sip R) (hr.mono (by decide)) R.m_law_sip R.F_law_sip R.b_law_sip <| ea_cons <| ex_var ⟨rfl, rfl⟩ <| ea_cons <| ex_int <| ea_nil <| apC [] ⟨_, a_spring, (4 : Int), rfl, rfl, outC1 (ob h) (fun z1 h => r_ix Dat.str (xs := ([("0ab" : Str), ("0abcd" : Str), ("ab" : Str), ("abcdefghijklmnopqrstuvwxyz0" : Str)] : List Str)) (ob h) fun z2 h => ?_) (fun _ h => h)⟩⟩
  exact ws_ret <| ex_join <| ex_str <| ⟨.str, ea_cons <| ex_lcT [("at", 3)] <| ei_rng1 R.n_range <| ex_var ⟨rfl, rfl⟩ <| ⟨a_length, rfl, (gd (ob h)).1, have h := (gd (ob h)).2; compST Dat.int chD (xs := (rangeL 0 (Int.toNat a_length))) (fun (s5 : (List Int)) => (P_spring, .lst (s5.map Dat.int)) :: []) (ob h) (fun _ => trivial) (fun x4 s5 _ h s H C cl fp => gc_name  <| fun s H C cl fp => ef_nil ⟨fun _ s H C cl fp => ex_ix <| ex_var ⟨rfl, rfl⟩ <| ex_callA (ok_law_sip R) (hr.mono (by decide)) R.m_law_sip R.F_law_sip R.b_law_sip <| ea_cons <| ex_var ⟨rfl, rfl⟩ <| ea_cons <| ex_callB R.n_len PyProof.Rows.Boot.«len» <| ea_cons <| ex_var ⟨rfl, rfl⟩ <| ea_nil <| r_lenS (ob h) fun z6 h => ea_nil <| apC [] ⟨_, s5, z6, rfl, rfl, outC1 (ob h) (fun z7 h => r_ixS (ob h) fun z8 h => ⟨z8, z7.2, rfl, rfl, h⟩) (fun _ h => h)⟩, fun z => nomatch z⟩) (fun l9 h => ea_nil <| r_joinC (xs := l9.1) (ob h) fun z10 h => (dN [] h))⟩⟩

def S_law_writes (R : Prg K mg) : Spc := fun ds M P E => ∃ (P_spring : Addr) (a_spring : (List Int)) (a_length : Int) (a_most : Int), ds = [.raw (.ref P_spring), (.int a_length), (.int a_most)] ∧ M = [(P_spring, .lst (a_spring.map Dat.int))] ∧ (m_law_writes a_spring a_length a_most).Out (fun r => P ((lstD (pairD Dat.int Dat.str)) r.1) [(P_spring, .lst (r.2.map Dat.int))]) (fun _ => False)
theorem ok_law_writes (R : Prg K mg) : FnD PR w K mg base 3 R.f_law_writes R.d_law_writes P_law_writes (S_law_writes R) := by
  refine fn_d false R.F_law_writes sc_law_writes (fun h => nomatch h) (fun ds M P E ⟨_, _, _, _, e, _⟩ => by rw [e]; rfl) fun cdv A outer s H E hr ds M Pd PE h => ?_
  obtain ⟨P_spring, a_spring, a_length, a_most, rfl, rfl, h⟩ := h
  have hu := hr.units
  refine WS.ends ?_
  refine ws_set <| ex_lstC <| ea_nil ⟨ln, fun q1 _ => ?_⟩
  refine ws_forT <| ei_rng1 R.n_range <| ex_bin <| ex_callA (ok_law_sip R) (hr.mono (by decide)) R.m_law_sip R.F_law_sip R.b_law_sip <| ea_cons <| ex_var ⟨rfl, rfl⟩ <| ea_cons <| ex_bin <| ex_var ⟨rfl, rfl⟩ <| ex_int <| o_add <| ea_nil <| apC [_] ⟨_, a_spring, (a_most + (1 : Int)), rfl, rfl, outC1 (ob h) (fun z2 h => ex_callTy R.n_int PyProof.Rows.Boot.«int» <| ea_cons <| ex_cmp <| ex_var ⟨rfl, rfl⟩ <| ex_int <| o_gt <| ea_nil <| c_int_b <| r_mul (ob h) fun z3 h => ⟨z3, rfl, (gd (ob h)).1, have h := (gd (ob h)).2; foldT Dat.int (xs := (rangeL 0 (Int.toNat z3))) (fun (s4 : ((List (Int × Str)) × (List Int))) τ M' => ∃ d4 d5 d6 d7, [some (.raw (.ref P_spring)), some (.int a_length), some (.int a_most), some (.raw (.ref q1)), d4, d5, d6, d7] = τ ∧ (q1, .lst (s4.1.map (pairD Dat.int Dat.str))) :: (P_spring, .lst (s4.2.map Dat.int)) :: [] = M') (ob h) ⟨_, _, _, _, rfl, rfl⟩ (fun _ _ _ _ => trivial) ?g18 ?g19⟩) (fun _ h => h)⟩
  case g18 =>
    rintro x5 s4 _ _ N ⟨d4, d5, d6, d7, rfl, rfl⟩ h
    refine gx_name  <| ?_
    refine ws_set <| ex_callA (ok_law_sip R) (hr.mono (by decide)) R.m_law_sip R.F_law_sip R.b_law_sip <| ea_cons <| ex_var ⟨rfl, rfl⟩ <| ea_cons <| ex_var ⟨rfl, rfl⟩ <| ea_nil <| apC [_] ⟨_, s4.2, a_length, rfl, rfl, outC1 (ob h) (fun z8 h => ?_) (fun _ h => h)⟩
    refine ws_set <| ex_ix <| ex_lst <| ea_cons <| ex_int <| ea_cons <| ex_int <| ea_cons <| ex_int <| ea_cons <| ex_int <| ea_nil ⟨ln, ex_callA (ok_law_sip R) (hr.mono (by decide)) R.m_law_sip R.F_law_sip R.b_law_sip <| ea_cons <| ex_var ⟨rfl, rfl⟩ <| ea_cons <| ex_int <| ea_nil <| apC [_] ⟨_, z8.2, (4 : Int), rfl, rfl, outC1 (ob h) (fun z9 h => r_ix Dat.int (xs := ([(1 : Int), (2 : Int), (3 : Int), (9 : Int)] : List Int)) (ob h) fun z10 h => ?_) (fun _ h => h)⟩⟩
    refine ws_set <| ex_bin <| ex_int <| ex_callA (ok_law_sip R) (hr.mono (by decide)) R.m_law_sip R.F_law_sip R.b_law_sip <| ea_cons <| ex_var ⟨rfl, rfl⟩ <| ea_cons <| ex_callB R.n_min PyProof.Rows.Boot.«min» <| ea_cons <| ex_bin <| ex_var ⟨rfl, rfl⟩ <| ex_var ⟨rfl, rfl⟩ <| o_sub <| ea_cons <| ex_var ⟨rfl, rfl⟩ <| ea_nil <| c_minT <| ea_nil <| apC [_] ⟨_, z9.2, (min (a_length - z8.1) z10), rfl, rfl, outC1 (ob h) (fun z11 h => o_add <| ?_) (fun _ h => h)⟩
    refine ws_expr <| r_app [] (pairD Dat.int Dat.str) (xs := s4.1) <| ex_var ⟨rfl, rfl⟩ ⟨rfl, rfl, ea_cons <| ex_tup <| ea_cons <| ex_var ⟨rfl, rfl⟩ <| ea_cons <| ex_callA (ok_law_text R) (hr.mono (by decide)) R.m_law_text R.F_law_text R.b_law_text <| ea_cons <| ex_var ⟨rfl, rfl⟩ <| ea_cons <| ex_var ⟨rfl, rfl⟩ <| ea_nil <| apC [_] ⟨_, z11.2, ((1 : Int) + z11.1), rfl, rfl, outC1 (ob h) (fun z13 h => ea_nil ⟨ln, ea_nil <| b_app [] (pairD Dat.int Dat.str) (xs := s4.1) (x := (z8.1, z13.1)) (ob h) fun z12 h => ?_⟩) (fun _ h => h)⟩⟩
    exact ws_nil ⟨(z12, z13.2), ⟨_, _, _, _, rfl, rfl⟩, h⟩
  case g19 =>
    rintro s4 _ _ ⟨d4, d5, d6, d7, rfl, rfl⟩ h
    exact ws_ret <| ex_frz <| ex_var ⟨rfl, rfl⟩ ⟨_, _, _, rfl, (List.perm_middle (l₁ := [])), (dN [] h)⟩

def S_law_no_writes (R : Prg K mg) : Spc := fun ds M P E => ∃ (a_size : Int), ds = [(.int a_size)] ∧ (m_law_no_writes a_size).Out (fun r => P ((lstD Dat.str) r) M) (fun x => E (exE R x) M)
theorem ok_law_no_writes (R : Prg K mg) : FnD PR w K mg base 1 R.f_law_no_writes R.d_law_no_writes P_law_no_writes (S_law_no_writes R) := by
  refine fn_d false R.F_law_no_writes sc_law_no_writes (fun h => nomatch h) (fun ds M P E ⟨_, e, _⟩ => by rw [e]; rfl) fun cdv A outer s H E hr ds M Pd PE h => ?_
  obtain ⟨a_size, rfl, h⟩ := h
  have hu := hr.units
  refine WS.ends ?_
  refine ws_set <| ex_lst <| ea_cons <| ex_str <| ea_cons <| ex_str <| ea_cons <| ex_str <| ea_cons <| ex_str <| ea_cons <| ex_str <| ea_cons <| ex_str <| ea_cons <| ex_str <| ea_cons <| ex_str <| ea_cons <| ex_str <| ea_cons <| ex_str <| ea_cons <| ex_str <| ea_cons <| ex_str <| ea_cons <| ex_str <| ea_nil ⟨ln, ?_⟩
  refine ws_set <| ex_bin <| ex_var ⟨rfl, rfl⟩ <| ex_lst <| ea_cons <| ex_str <| ea_cons <| ex_str <| ea_cons <| ex_str <| ea_cons <| ex_bin <| ex_callTy R.n_str PyProof.Rows.Boot.«str» <| ea_cons <| ex_var ⟨rfl, rfl⟩ <| ea_nil <| c_strI (ob h) fun z1 h => ex_str <| r_cat (ob h) fun z2 h => ea_cons <| ex_bin <| ex_str <| ex_bin <| ex_str <| ex_bin <| ex_var ⟨rfl, rfl⟩ <| ex_int <| o_add <| r_repS (ob h) fun z3 h => r_cat (ob h) fun z4 h => ea_cons <| ex_str <| ea_cons <| ex_str <| ea_cons <| ex_str <| ea_nil ⟨ln, r_catL Dat.str (xs := ([("" : Str), (" " : Str), ("a" : Str), ("0" : Str), ("0 " : Str), ("0  a" : Str), (" 0 a" : Str), ("0 a " : Str), ("00 a" : Str), ("01 a" : Str), ("-1 a" : Str), ("+0 a" : Str), ("0 ." : Str)] : List Str)) (ys := ([("0 A" : Str), ("0 a." : Str), ("0 a b" : Str), z2, z4, ("a 0" : Str), ("0a" : Str), ("0=a" : Str)] : List Str)) (ob h) fun z5 h => ?_⟩
  refine ws_set <| ex_bin <| ex_var ⟨rfl, rfl⟩ <| ex_lst <| ea_cons <| ex_bin <| ex_callTy R.n_str PyProof.Rows.Boot.«str» <| ea_cons <| ex_bin <| ex_var ⟨rfl, rfl⟩ <| ex_int <| o_sub <| ea_nil <| c_strI (ob h) fun z6 h => ex_str <| r_cat (ob h) fun z7 h => ea_cons <| ex_bin <| ex_callTy R.n_str PyProof.Rows.Boot.«str» <| ea_cons <| ex_var ⟨rfl, rfl⟩ <| ea_nil <| c_strI (ob h) fun z8 h => ex_str <| r_cat (ob h) fun z9 h => ea_nil ⟨ln, r_catL Dat.str (xs := z5) (ys := ([z7, z9] : List Str)) (ob h) fun z10 h => ?_⟩
  exact ws_ret <| ex_bin <| ex_var ⟨rfl, rfl⟩ <| ex_lst <| ea_cons <| ex_str <| ea_cons <| ex_str <| ea_cons <| ex_str <| ea_cons <| ex_str <| ea_cons <| ex_str <| ea_cons <| ex_bin <| ex_bin <| ex_str <| ex_int <| r_repS (ob h) fun z11 h => ex_str <| r_cat (ob h) fun z12 h => ea_nil ⟨ln, r_catL Dat.str (xs := z10) (ys := ([("0,a" : Str), ("0 -" : Str), ("0 1" : Str), ("1_0 a" : Str), ("0.0 a" : Str), z12] : List Str)) (ob h) fun z13 h => (dN [] h)⟩

def S_read_script__v2 (R : Prg K mg) : Spc := fun ds M P E => ∃ (a_text : Any), ds = [(anyD (clR R) a_text)] ∧ (m_read_script__v2 a_text).Out (fun r => P (Empty.elim r) M) (fun x => E (exE R x) M)
theorem ok_read_script__v2 (R : Prg K mg) : FnD PR w K mg base 2 R.f_read_script R.d_read_script P_read_script (S_read_script__v2 R) := by
  refine fn_d false R.F_read_script sc_read_script (fun h => nomatch h) (fun ds M P E ⟨_, e, _⟩ => by rw [e]; rfl) fun cdv A outer s H E hr ds M Pd PE h => ?_
  obtain ⟨a_text, rfl, h⟩ := h
  have hu := hr.units
  refine WS.ends ?_
  refine ws_if <| et_not <| et_val <| ex_callB R.n_isinstance PyProof.Rows.Boot.«isinstance» <| ea_cons <| ex_var ⟨rfl, rfl⟩ <| ea_cons <| ex_gty R.n_str PyProof.Rows.Boot.«str» <| ea_nil <| r_isA (.ty _) (icR R) (sub_str R) (ob h) fun z1 h => ⟨_, rfl, cifN h (fun h => ?g3) (fun h => ?g2)⟩
  case g2 =>
    exact ws_raise rfl R.S_InvalidText R.mc_InvalidText R.n_super hr <| ex_asA <| ex_non <| ⟨anyD (clR R) Any.non, (by first | rfl | (simp only [anyD, anyDL, anyDL_map, List.map_map]; done) | (simp only [anyD, anyDL, anyDL_map, List.map_map]; rfl) | (simp only [anyD, anyDL, anyDL_map, List.map_map, stepA_comp, stepA_D]; rfl) | (simp only [anyD, anyDL, anyDL_map, List.map_map, stepA_comp, stepA_D]; done)), (dX [] h)⟩
  case g3 =>
    refine ws_nil ?_
    exact h.elim

def S_read_history__v2 (R : Prg K mg) : Spc := fun ds M P E => ∃ (a_text : Any), ds = [(anyD (clR R) a_text)] ∧ (m_read_history__v2 a_text).Out (fun r => P (Empty.elim r) M) (fun x => E (exE R x) M)
theorem ok_read_history__v2 (R : Prg K mg) : FnD PR w K mg base 2 R.f_read_history R.d_read_history P_read_history (S_read_history__v2 R) := by
  refine fn_d false R.F_read_history sc_read_history (fun h => nomatch h) (fun ds M P E ⟨_, e, _⟩ => by rw [e]; rfl) fun cdv A outer s H E hr ds M Pd PE h => ?_
  obtain ⟨a_text, rfl, h⟩ := h
  have hu := hr.units
  refine WS.ends ?_
  refine ws_if <| et_not <| et_val <| ex_callB R.n_isinstance PyProof.Rows.Boot.«isinstance» <| ea_cons <| ex_var ⟨rfl, rfl⟩ <| ea_cons <| ex_gty R.n_str PyProof.Rows.Boot.«str» <| ea_nil <| r_isA (.ty _) (icR R) (sub_str R) (ob h) fun z1 h => ⟨_, rfl, cifN h (fun h => ?g3) (fun h => ?g2)⟩
  case g2 =>
    exact ws_raise rfl R.S_InvalidText R.mc_InvalidText R.n_super hr <| ex_asA <| ex_non <| ⟨anyD (clR R) Any.non, (by first | rfl | (simp only [anyD, anyDL, anyDL_map, List.map_map]; done) | (simp only [anyD, anyDL, anyDL_map, List.map_map]; rfl) | (simp only [anyD, anyDL, anyDL_map, List.map_map, stepA_comp, stepA_D]; rfl) | (simp only [anyD, anyDL, anyDL_map, List.map_map, stepA_comp, stepA_D]; done)), (dX [] h)⟩
  case g3 =>
    refine ws_nil ?_
    exact h.elim

def S_law_spot__v2 (R : Prg K mg) : Spc := fun ds M P E => ∃ (a_way : Int) (a_value : Any), ds = [(.int a_way), (anyD (clR R) a_value)] ∧ (m_law_spot__v2 a_way a_value).Out (fun r => P ((lstD (anyD (clR R))) r) M) (fun x => E (exE R x) M)
theorem ok_law_spot__v2 (R : Prg K mg) : FnD PR w K mg base 3 R.f_law_spot R.d_law_spot P_law_spot (S_law_spot__v2 R) := by
  refine fn_d false R.F_law_spot sc_law_spot (fun h => nomatch h) (fun ds M P E ⟨_, _, e, _⟩ => by rw [e]; rfl) fun cdv A outer s H E hr ds M Pd PE h => ?_
  obtain ⟨a_way, a_value, rfl, h⟩ := h
  have hu := hr.units
  refine WS.ends ?_
  refine ws_set <| ex_lst <| ea_cons <| ex_asA <| ex_str <| ⟨anyD (clR R) (Any.str ("read" : Str)), (by first | rfl | (simp only [anyD, anyDL, anyDL_map, List.map_map]; done) | (simp only [anyD, anyDL, anyDL_map, List.map_map]; rfl) | (simp only [anyD, anyDL, anyDL_map, List.map_map, stepA_comp, stepA_D]; rfl) | (simp only [anyD, anyDL, anyDL_map, List.map_map, stepA_comp, stepA_D]; done)), ea_nil ⟨ln, ?_⟩⟩
  refine ws_tryJ (exE R) (fun Q τ M' => ∃ s1 : (List Any), ∃ d3, [some (.int a_way), some (anyD (clR R) a_value), some ((lstD (anyD (clR R))) s1), d3] = τ ∧ M = M' ∧ Q s1) (l₀ := ⟨_, _, _, _, _, _, _⟩) (ls := []) (ob h) rfl rfl (.cons ⟨rfl, (by show (("InvalidText" : Str) == ("__debug__" : Str)) = false; decide), .inl R.mc_InvalidText⟩ rfl rfl (.nil)) (fun h pn xe po => ?b10) ?x11 ?k12
  case b10 =>
    refine ws_ifQ (fun Q τ M' => ∃ s2 : Unit, ∃ d3, [some (.int a_way), some (anyD (clR R) a_value), some ((lstD (anyD (clR R))) ([(Any.str ("read" : Str))] : List Any)), d3] = τ ∧ M = M' ∧ Q s2) (ob h) (fun _ h => et_cmp <| ex_var ⟨rfl, rfl⟩ <| ex_int <| o_eqI <| ⟨_, rfl, cif h (fun h => ?g4) (fun h => ?g6)⟩) ?k7
    case g4 =>
      refine ws_expr <| ex_callF (ok_read_script__v2 R) (hr.mono (by decide)) R.m_read_script R.F_read_script R.b_read_script <| ea_cons <| ex_asA <| ex_var ⟨rfl, rfl⟩ <| ⟨_, rfl, ea_nil <| ⟨a_value, rfl, outU (ob h) (fun z3 h => z3.elim) (fun _ h => tX [] h)⟩⟩
    case g6 =>
      refine ws_expr <| ex_callF (ok_read_history__v2 R) (hr.mono (by decide)) R.m_read_history R.F_read_history R.b_read_history <| ea_cons <| ex_asA <| ex_var ⟨rfl, rfl⟩ <| ⟨_, rfl, ea_nil <| ⟨a_value, rfl, outU (ob h) (fun z5 h => z5.elim) (fun _ h => tX [] h)⟩⟩
    case k7 =>
      rintro _ _ ⟨s2, d3, rfl, rfl, h⟩
      exact ws_nil ⟨([(Any.str ("read" : Str))] : List Any), _, rfl, rfl, h⟩
  case x11 =>
    rintro ⟨kk, x8⟩ h
    cases kk with
    | file =>
      refine ⟨false, R.e_InvalidFile_InvalidText, (fun z => nomatch z), fun _ => (fun _ h => dX [] h) _ h⟩
    | number =>
      refine ⟨false, R.e_InvalidNumber_InvalidText, (fun z => nomatch z), fun _ => (fun _ h => dX [] h) _ h⟩
    | script =>
      refine ⟨false, R.e_InvalidScript_InvalidText, (fun z => nomatch z), fun _ => (fun _ h => dX [] h) _ h⟩
    | list =>
      refine ⟨false, R.e_InvalidList_InvalidText, (fun z => nomatch z), fun _ => (fun _ h => dX [] h) _ h⟩
    | write =>
      refine ⟨false, R.e_InvalidWrite_InvalidText, (fun z => nomatch z), fun _ => (fun _ h => dX [] h) _ h⟩
    | text =>
      refine ⟨true, R.e_InvalidText_InvalidText, fun _ => ⟨List.cons_ne_nil _ _, fun a dd oe pn hz hv => ?_⟩, fun z => nomatch z⟩
      refine ws_set <| ex_lst <| ea_cons <| ex_asA <| ex_ev R.x_InvalidText R.S_InvalidText.nf hz hv ⟨rfl, rfl⟩ rfl <| ⟨_, rfl, ea_nil ⟨ln, ?_⟩⟩
      exact ws_nil ⟨([x8] : List Any), _, rfl, rfl, h⟩
    | _ => exact h.elim
  case k12 =>
    rintro _ _ ⟨s1, d3, rfl, rfl, h⟩
    exact ws_ret <| ex_asA <| ex_var ⟨rfl, rfl⟩ <| ⟨_, rfl, (dN [] h)⟩
end
end Kh

set_option Elab.async false
set_option linter.all false
set_option maxRecDepth 100000
set_option maxHeartbeats 4000000
set_option exponentiation.threshold 20000
namespace Kh
open PySem PySem.Spec L2
/-! ### words for what the defs compute -/
section
variable {α β γ σ ρ : Type}
theorem bind_eq {m : Res α} {a : α} {k : α → Res β} (h : m = .ok a) : m.bind k = k a := by rw [h]; rfl
theorem foldR_append {f : σ → α → Res σ} : ∀ {xs ys : List α} {s : σ}, foldR f (xs ++ ys) s = (foldR f xs s).bind (foldR f ys)
  | [], ys, s => rfl
  | x :: xs, ys, s => by
    simp only [List.cons_append, foldR_cons, bind_bind]
    congr 1; funext s'; exact foldR_append
theorem foldR_inv {f : σ → α → Res σ} (I : σ → Prop) : ∀ {xs : List α} {s : σ}, I s → (∀ s x, I s → x ∈ xs → ∃ s', f s x = .ok s' ∧ I s') → ∃ s', foldR f xs s = .ok s' ∧ I s'
  | [], s, h, _ => ⟨s, rfl, h⟩
  | x :: xs, s, h, hf => by
    obtain ⟨s1, e1, h1⟩ := hf s x h List.mem_cons_self
    rw [foldR_cons, e1]
    exact foldR_inv I h1 fun s y hs hy => hf s y hs (List.mem_cons_of_mem _ hy)
theorem rangeL_succ {lo : Int} {n : Nat} : rangeL lo (n + 1) = rangeL lo n ++ [lo + (n : Int)] := by simp [rangeL, List.range_succ]
theorem rangeL_length {lo : Int} {n : Nat} : (rangeL lo n).length = n := by simp [rangeL]
theorem mem_rangeL {lo i : Int} {n : Nat} : i ∈ rangeL lo n ↔ lo ≤ i ∧ i < lo + n := by
  simp only [rangeL, List.mem_map, List.mem_range]
  constructor
  · rintro ⟨k, hk, rfl⟩; omega
  · rintro ⟨h1, h2⟩; exact ⟨(i - lo).toNat, by omega, by omega⟩
theorem foldR_rangeI {f : σ → Int → Res σ} {lo : Int} (I : Nat → σ → Prop) {s0 : σ} (h0 : I 0 s0) : ∀ {n : Nat}, (∀ i s, i < n → I i s → ∃ s', f s (lo + (i : Int)) = .ok s' ∧ I (i + 1) s') → ∃ s', foldR f (rangeL lo n) s0 = .ok s' ∧ I n s'
  | 0, _ => ⟨s0, rfl, h0⟩
  | n + 1, h => by
    obtain ⟨s1, e1, h1⟩ := foldR_rangeI I h0 (n := n) fun i s hi => h i s (by omega)
    obtain ⟨s2, e2, h2⟩ := h n s1 (by omega) h1
    refine ⟨s2, ?_, h2⟩
    rw [rangeL_succ, foldR_append, e1, bind_ok, foldR_cons, e2]
    rfl
/-- a loop that is not left early -/
theorem forR_inv {f : σ → α → Res (Ctl σ ρ)} (I : σ → Prop) : ∀ {xs : List α} {s : σ}, I s → (∀ s x, I s → x ∈ xs → ∃ s', f s x = .ok (.nx s') ∧ I s') → ∃ s', forR f xs s = .ok (.nx s') ∧ I s'
  | [], s, h, _ => ⟨s, rfl, h⟩
  | x :: xs, s, h, hf => by
    obtain ⟨s1, e1, h1⟩ := hf s x h List.mem_cons_self
    rw [forR_cons, e1]
    exact forR_inv I h1 fun s y hs hy => hf s y hs (List.mem_cons_of_mem _ hy)
theorem compL_map {f : α → Res (Option β)} (g : α → β) : ∀ {xs : List α}, (∀ x ∈ xs, f x = .ok (some (g x))) → compL f xs = .ok (xs.map g)
  | [], _ => rfl
  | x :: xs, h => by
    show (f x).bind _ = _
    rw [h x List.mem_cons_self, bind_ok, compL_map g fun y hy => h y (List.mem_cons_of_mem _ hy)]
    rfl
theorem compR_map {f : α → Res (Option β)} (g : α → β) {xs : List α} (hl : xs.length ≤ sizeLine) (h : ∀ x ∈ xs, f x = .ok (some (g x))) : compR f xs = .ok (xs.map g) := by
  unfold compR; rw [if_pos hl, compL_map g h]; rfl
theorem compL_fm {f : α → Res (Option β)} (g : α → Option β) : ∀ {xs : List α}, (∀ x ∈ xs, f x = .ok (g x)) → compL f xs = .ok (xs.filterMap g)
  | [], _ => rfl
  | x :: xs, h => by
    show (f x).bind _ = _
    rw [h x List.mem_cons_self, bind_ok, compL_fm g fun y hy => h y (List.mem_cons_of_mem _ hy), List.filterMap_cons]
    cases g x <;> rfl
theorem compR_fm {f : α → Res (Option β)} (g : α → Option β) {xs : List α} (hl : xs.length ≤ sizeLine) (h : ∀ x ∈ xs, f x = .ok (g x)) : compR f xs = .ok (xs.filterMap g) := by
  unfold compR; rw [if_pos hl, compL_fm g h]; rfl
/-- with a test -/
theorem compR_filter {f : α → Res (Option α)} (p : α → Bool) {xs : List α} (hl : xs.length ≤ sizeLine) (h : ∀ x ∈ xs, f x = .ok (if p x then some x else none)) : compR f xs = .ok (xs.filter p) := by
  rw [compR_fm (fun x => if p x then some x else none) hl h]
  congr 1
  clear h hl
  induction xs with
  | nil => rfl
  | cons x xs ih => rw [List.filterMap_cons, List.filter_cons]; cases p x <;> simp [ih]
theorem compR_none {f : α → Res (Option β)} {xs : List α} (hl : xs.length ≤ sizeLine) (h : ∀ x ∈ xs, f x = .ok none) : compR f xs = .ok [] := by
  rw [compR_fm (fun _ => none) hl h]
  congr 1
  clear h hl
  induction xs with
  | nil => rfl
  | cons x xs ih => simp
end
theorem sz : sizeLine = 16777216 := sizeLine_eq
theorem lg {i : Int} {n : Nat} (h : i.natAbs < 2 ^ n) (h0 : 0 < n) : i.natAbs.log2 < n := PySem.Flt.log2_lt_of h0 h
theorem pdiv_ok {i j : Int} (h : 0 < j) (hb : j.natAbs < 2 ^ 8000) : pdiv i j = .ok (i / j) := guard_ok ⟨h, Nat.lt_of_lt_of_le (lg hb (by decide)) (by decide)⟩
theorem pmod_ok {i j : Int} (h : 0 < j) : pmod i j = .ok (i % j) := guard_ok h
theorem pmul_ok {i j : Int} (hi : i.natAbs < 2 ^ 8000) (hj : j.natAbs < 2 ^ 8000) : pmul i j = .ok (i * j) := guard_ok (by have := lg hi (by decide); have := lg hj (by decide); omega)
/-- a number far below the greatest -/
def Sm (n : Nat) (i : Int) : Prop := i.natAbs < 2 ^ n
theorem Sm.up {n m : Nat} {i : Int} (h : Sm n i) (hm : n ≤ m) : Sm m i := Nat.lt_of_lt_of_le h (Nat.pow_le_pow_right (by decide) hm)
theorem Sm.sub {n : Nat} {i j : Int} (h : Sm n i) (g : Sm n j) : Sm (n + 1) (i - j) := by
  unfold Sm at *; rw [Nat.pow_succ]; omega
theorem Sm.of {n : Nat} {i : Int} (h0 : 0 ≤ i) {b : Int} (hb : i ≤ b) (hn : Sm n b) : Sm n i := by unfold Sm at *; omega
theorem pix_nat {α : Type} {xs : List α} {i : Nat} {x : α} (h : xs[i]? = some x) : pix xs (i : Int) = .ok x := by unfold pix; rw [atI_nat h]
theorem small62_of {i : Int} (h0 : 0 ≤ i) (h : i < 1000000000) : small62 i := by unfold small62; omega
/-! the numbers that a script's number draws -/
/-! ### what is computed is so: m.Ok P -/
def Res.Ok {α : Type} : Res α → (α → Prop) → Prop
  | .ok a, P => P a
  | _, _ => False
section
variable {α β γ σ ρ : Type}
theorem ok_of {m : Res α} {a : α} {P : α → Prop} (e : m = .ok a) (h : P a) : m.Ok P := by rw [e]; exact h
theorem Res.Ok.get {m : Res α} {P : α → Prop} (h : m.Ok P) : ∃ a, m = .ok a ∧ P a := by
  cases m with
  | ok b => exact ⟨b, rfl, h⟩
  | err x => exact h.elim
  | bad => exact h.elim
  | all g => exact h.elim
theorem Res.Ok.imp {m : Res α} {P Q : α → Prop} (h : m.Ok P) (i : ∀ a, P a → Q a) : m.Ok Q := by
  obtain ⟨a, e, q⟩ := h.get; rw [e]; exact i a q
theorem bi {m : Res α} {k : α → Res β} {Q : α → Prop} {P : β → Prop} (h : m.Ok Q) (hk : ∀ a, Q a → (k a).Ok P) : (m.bind k).Ok P := by
  obtain ⟨a, e, q⟩ := h.get; rw [e]; exact hk a q
theorem be {m : Res α} {k : α → Res β} {a : α} {P : β → Prop} (e : m = .ok a) (hk : (k a).Ok P) : (m.bind k).Ok P := by rw [e]; exact hk
theorem cB {c : Bool} {a b : Res α} {P : α → Prop} (h1 : c = true → a.Ok P) (h2 : c = false → b.Ok P) : (cond c a b).Ok P := by
  cases c with
  | true => exact h1 rfl
  | false => exact h2 rfl
theorem bg {c : Prop} [Decidable c] {x : α} {k : α → Res β} {P : β → Prop} (hc : c) (h : (k x).Ok P) : ((guard c x).bind k).Ok P := be (guard_ok hc) h
theorem forO {f : σ → α → Res (Ctl σ ρ)} {k : σ → Res β} {r : ρ → Res β} {xs : List α} {s : σ} {P : β → Prop} (I : σ → Prop) (h0 : I s) (step : ∀ s x, I s → x ∈ xs → (f s x).Ok fun c => ∃ s', c = .nx s' ∧ I s') (fin : ∀ s, I s → (k s).Ok P) : ((forR f xs s).bind (Ctl.fin k r)).Ok P := by
  obtain ⟨s', e, h⟩ := forR_inv I h0 fun s x hs hx => by
    obtain ⟨c, e, s', rfl, h⟩ := (step s x hs hx).get
    exact ⟨s', e, h⟩
  rw [e]; exact fin s' h
theorem foldO {f : σ → α → Res σ} {k : σ → Res β} {xs : List α} {s : σ} {P : β → Prop} (I : σ → Prop) (h0 : I s) (step : ∀ s x, I s → x ∈ xs → (f s x).Ok I) (fin : ∀ s, I s → (k s).Ok P) : ((foldR f xs s).bind k).Ok P := by
  obtain ⟨s', e, h⟩ := foldR_inv I h0 fun s x hs hx => (step s x hs hx).get
  rw [e]; exact fin s' h
end
theorem pix_of {α : Type} {xs : List α} {i n : Int} (h0 : 0 ≤ i) (h1 : i < n) {P : α → Prop} (hp : ∀ x ∈ xs, P x) (hn : n = (xs.length : Int) := by rfl) : (pix xs i).Ok P := by
  obtain ⟨k, rfl⟩ := Int.eq_ofNat_of_zero_le h0
  have hk : k < xs.length := by omega
  exact ok_of (pix_nat (List.getElem?_eq_getElem hk)) (hp _ (List.getElem_mem hk))
/-! ### texts as lists of signs -/
abbrev mk (l : List Nat) : Str := ⟨l.toArray⟩
theorem signs_mk {l : List Nat} : signsL (mk l) = l := rfl
theorem mk_signs (z : Str) : mk (signsL z) = z := TL.mk_tl z
theorem s_ext {x y : Str} (h : signsL x = signsL y) : x = y := TL.ext_tl h
theorem s_len (z : Str) : z.length = (signsL z).length := TL.len_tl z
theorem mk_len {l : List Nat} : (mk l).length = l.length := s_len _
theorem pcat_mk {a b : Str} (h : a.length + b.length ≤ 1000000) : pcat a b = .ok (mk (signsL a ++ signsL b)) := by
  unfold pcat
  rw [guard_ok (by rw [sz]; omega)]
  congr 1
  exact s_ext (TL.tl_append a b)
theorem prepS_mk {z : Str} {n : Int} (h0 : 0 ≤ n) (h : z.length * n.toNat ≤ 1000000) (h2 : n ≤ 1000000) : prepS z n = .ok (mk (List.replicate n.toNat (signsL z)).flatten) := by
  unfold prepS
  rw [guard_ok ⟨⟨by omega, by omega⟩, by rw [sz]; omega⟩]
  rfl
theorem pixS_mk {z : Str} {i : Nat} {c : Nat} (hl : z.length ≤ 1000000) (h : (signsL z)[i]? = some c) : pixS z (i : Int) = .ok c := by
  unfold pixS
  rw [if_pos (by rw [sz]; omega), pix_nat h]
theorem plenS_mk {z : Str} (hl : z.length ≤ 1000000) : plenS z = .ok ((signsL z).length : Int) := by
  unfold plenS
  rw [guard_ok (by rw [sz]; omega), s_len]
theorem cutD_to {α : Type} {l : List α} {j : Nat} : cutD l none (some (j : Int)) = l.take j := by
  unfold cutD
  rw [HT.sIx_none, HT.sIx_nat, List.drop_zero, Nat.sub_zero]
  by_cases h2 : j ≤ l.length
  · rw [Nat.min_eq_left h2]
  · rw [Nat.min_eq_right (by omega), List.take_of_length_le (by omega), List.take_of_length_le (by omega)]
theorem cutD_from {α : Type} {l : List α} {i : Nat} : cutD l (some (i : Int)) none = l.drop i := by
  unfold cutD
  rw [HT.sIx_none, HT.sIx_nat]
  by_cases h : i ≤ l.length
  · rw [Nat.min_eq_left h, List.take_of_length_le (by rw [List.length_drop]; omega)]
  · have e : min i l.length = l.length := Nat.min_eq_right (by omega)
    rw [e, List.drop_length, List.drop_eq_nil_of_le (by omega)]; simp
theorem joinL_nil : ∀ (ys : List (List Nat)), TL.joinL [] ys = ys.flatten
  | [] => rfl
  | [y] => by simp [TL.joinL]
  | y :: z :: r => by show y ++ ([] ++ TL.joinL [] (z :: r)) = _; rw [joinL_nil (z :: r)]; simp
theorem pjoin_mk {ys : List Str} (h : (ys.map (·.length)).sum ≤ 1000000) : pjoin "" ys = .ok (mk (ys.map signsL).flatten) := by
  unfold pjoin
  have e1 : (Str.ofString "").length = 0 := by rfl
  rw [guard_ok (by rw [e1]; omega)]
  congr 1
  apply s_ext
  rw [TL.join_eq]
  refine (TL.tl_join _ _).trans ?_
  exact joinL_nil _
/-! ### what steps do to rows of signs -/
def okC (c : Nat) : Bool := c == 46 || c == 48 || (decide (97 ≤ c) && decide (c ≤ 122))
theorem cells_list : pcat (".0" : Str) ("abcdefghijklmnopqrstuvwxyz" : Str) = .ok (mk [46, 48, 97, 98, 99, 100, 101, 102, 103, 104, 105, 106, 107, 108, 109, 110, 111, 112, 113, 114, 115, 116, 117, 118, 119, 120, 121, 122]) := by
  rw [pcat_mk (by decide)]; rfl
theorem okC_in {c : Nat} : decide (c ∈ [46, 48, 97, 98, 99, 100, 101, 102, 103, 104, 105, 106, 107, 108, 109, 110, 111, 112, 113, 114, 115, 116, 117, 118, 119, 120, 121, 122]) = okC c := by
  rw [Bool.eq_iff_iff]
  simp only [okC, decide_eq_true_eq, List.mem_cons, List.not_mem_nil, or_false, Bool.or_eq_true, Bool.and_eq_true, beq_iff_eq]
  omega
theorem isE_filter {α : Type} {p : α → Bool} : ∀ {l : List α}, (l.filter p).isEmpty = l.all fun x => !p x
  | [] => rfl
  | x :: l => by
    rw [List.filter_cons, List.all_cons]
    cases h : p x
    · simp [isE_filter]
    · simp
theorem are_cells_val {z : Str} (hl : z.length ≤ 1000000) : m_are_cells z = .ok ((signsL z).all okC) := by
  unfold m_are_cells
  rw [compR_filter (fun c => !okC c) (by rw [← s_len, sz]; omega) (fun c _ => by rw [cells_list, bind_ok, signs_mk, okC_in]; cases okC c <;> rfl)]
  rw [bind_ok, andR_ok, cond_true, isE_filter]
  simp
abbrev CellS (l : List Nat) : Prop := l.all okC = true
theorem file_ok {l : List Nat} (hl : l.length ≤ 1000000) (h : CellS l) : m_File_make (mk l) = .ok (mk l) := by
  unfold m_File_make
  rw [are_cells_val (by rw [mk_len]; exact hl), signs_mk, h]; rfl
/-! ### what the laws draw: rows of cells, steps -/
section
variable {α β γ σ ρ : Type}
theorem foldIO {f : σ → Int → Res σ} {k : σ → Res β} {lo : Int} {n : Nat} {s : σ} {P : β → Prop} (I : Nat → σ → Prop) (h0 : I 0 s) (step : ∀ (i : Nat) s, i < n → I i s → (f s (lo + (i : Int))).Ok (I (i + 1))) (fin : ∀ s, I n s → (k s).Ok P) : ((foldR f (rangeL lo n) s).bind k).Ok P := by
  obtain ⟨s', e, h⟩ := foldR_rangeI I h0 (n := n) fun i s hi hs => (step i s hi hs).get
  rw [e]; exact fin s' h
end
/-! rows of signs put together -/
theorem chS_sum {α : Type} (f : α → Nat) : ∀ xs : List α, ((xs.map fun x => chS (f x)).map (·.length)).sum = xs.length
  | [] => rfl
  | x :: xs => by rw [List.map_cons, List.map_cons, List.sum_cons, chS_sum f xs, List.length_cons]; show 1 + _ = _; omega
theorem chS_flat {α : Type} (f : α → Nat) : ∀ xs : List α, ((xs.map fun x => chS (f x)).map signsL).flatten = xs.map f
  | [] => rfl
  | x :: xs => by rw [List.map_cons, List.map_cons, List.flatten_cons, chS_flat f xs, List.map_cons]; rfl
theorem join_chS {α : Type} {f : α → Nat} {xs : List α} (h : xs.length ≤ 1000000) : pjoin ("" : Str) (xs.map fun x => chS (f x)) = .ok (mk (xs.map f)) := by
  rw [pjoin_mk (by rw [chS_sum]; exact h), chS_flat]
/-! ### over Res with addresses given out: what a term must answer -/
section
variable {α β σ ρ : Type} {E E' : Er → Prop}
theorem bo {k : α → Res β} {P : α → Prop} {Q : β → Prop} (hk : ∀ a, P a → (k a).Out Q E) (hx : ∀ x, E' x → E x) : ∀ {m : Res α}, m.Out P E' → (m.bind k).Out Q E
  | .ok _, h => hk _ h
  | .err _, h => hx _ h
  | .bad, h => h
  | .all f, h => fun q => bo (m := f q) hk hx (h q)
/-- a loop that is not left early -/
theorem foA {f : σ → α → Res (Ctl σ ρ)} (I : σ → Prop) : ∀ {xs : List α} {s : σ}, I s → (∀ s x, I s → x ∈ xs → (f s x).Out (fun c => ∃ s', c = .nx s' ∧ I s') E) → (forR f xs s).Out (fun c => ∃ s', c = .nx s' ∧ I s') E
  | [], s, h, _ => ⟨s, rfl, h⟩
  | x :: xs, s, h, hf => by
    rw [forR_cons]
    refine bo (fun c hc => ?_) (fun _ h => h) (hf s x h List.mem_cons_self)
    obtain ⟨s', rfl, h'⟩ := hc
    exact foA I h' fun s y hs hy => hf s y hs (List.mem_cons_of_mem _ hy)
end
/-! ### values of any kind equal to themselves by shape or place -/
mutual
def selfA : Any → Bool
  | .lst xs => selfAL xs
  | .tup xs => selfAL xs
  | .dic => false
  | .obj _ _ => false
  | _ => true
def selfAL : List Any → Bool
  | [] => true
  | x :: xs => selfA x && selfAL xs
end
mutual
theorem eqA_self : ∀ {x : Any}, selfA x = true → eqA x x = true
  | .non, _ => by simp [eqA]
  | .bl _, _ => by simp [eqA]
  | .int _, _ => by simp [eqA]
  | .str _, _ => by simp [eqA]
  | .tag _ _, _ => by simp [eqA]
  | .cel _, _ => by simp [eqA]
  | .lst xs, h => by simp only [eqA]; exact eqAL_self (by simpa [selfA] using h)
  | .tup xs, h => by simp only [eqA]; exact eqAL_self (by simpa [selfA] using h)
  | .dic, h => by simp [selfA] at h
  | .obj _ _, h => by simp [selfA] at h
theorem eqAL_self : ∀ {xs : List Any}, selfAL xs = true → eqAL xs xs = true
  | [], _ => by simp [eqAL]
  | x :: xs, h => by
    simp only [selfAL, Bool.and_eq_true] at h
    simp only [eqAL, Bool.and_eq_true]
    exact ⟨eqA_self h.1, eqAL_self h.2⟩
end
/-! ### Out by what is told -/
section
variable {α β σ ρ : Type} {E E' : Er → Prop}
theorem bO {m : Res α} {k : α → Res β} {P : α → Prop} {Q : β → Prop} (h : m.Ok P) (hk : ∀ a, P a → (k a).Out Q E) : (m.bind k).Out Q E := by
  obtain ⟨a, e, q⟩ := h.get; rw [e]; exact hk a q
theorem bE {m : Res α} {k : α → Res β} {a : α} {Q : β → Prop} (e : m = .ok a) (hk : (k a).Out Q E) : (m.bind k).Out Q E := by rw [e]; exact hk
theorem oF {c : Bool} {a b : Res α} {P : α → Prop} (e : c = false) (h : b.Out P E) : (cond c a b).Out P E := by rw [e]; exact h
theorem oT {c : Bool} {a b : Res α} {P : α → Prop} (e : c = true) (h : a.Out P E) : (cond c a b).Out P E := by rw [e]; exact h
/-- a loop that is not left early, and what comes behind it -/
theorem foF {f : σ → α → Res (Ctl σ ρ)} {k : σ → Res β} {r : ρ → Res β} {xs : List α} {s : σ} {P : β → Prop} (I : σ → Prop) (h0 : I s) (step : ∀ s x, I s → x ∈ xs → (f s x).Out (fun c => ∃ s', c = .nx s' ∧ I s') E) (fin : ∀ s, I s → (k s).Out P E) : ((forR f xs s).bind (Ctl.fin k r)).Out P E := by
  refine bo (P := fun c => ∃ s', c = .nx s' ∧ I s') (fun c hc => ?_) (fun _ h => h) (foA I h0 step)
  obtain ⟨s', rfl, h⟩ := hc
  exact fin s' h
theorem nxA {s : σ} {I : σ → Prop} (h : I s) : (Res.ok (Ctl.nx s : Ctl σ ρ)).Out (fun c => ∃ s', c = .nx s' ∧ I s') E := ⟨s, rfl, h⟩
end
/-- values that a list compares as it finds them -/
def SV (v : Any) : Prop := selfA v = true ∧ dpA v ≤ 59
theorem eq_self {v : Any} (h : SV v) : peqA [v] [v] = .ok true :=
  guard_ok ⟨eqAL_self (by simp [selfAL, h.1]), by have := h.2; simp [dpAL]; omega⟩
theorem ne_self {v : Any} (h : SV v) : ((peqA [v] [v]).bind fun b => Res.ok !b) = .ok false := by rw [eq_self h]; rfl
theorem sv_non : SV .non := ⟨by simp [selfA], by simp [dpA]⟩
theorem sv_int {i : Int} : SV (.int i) := ⟨by simp [selfA], by simp [dpA]⟩
theorem sv_str {s : Str} : SV (.str s) := ⟨by simp [selfA], by simp [dpA]⟩
/-! ### springs: what the later laws draw from -/
def Spr (p : List Int) : Prop := ∃ a : Int, p = [a]
theorem sip_o {p : List Int} {many : Int} (hp : Spr p) (h0 : 0 < many) (hm : Sm 8000 many) : (m_law_sip p many).Ok fun r => 0 ≤ r.1 ∧ r.1 < many ∧ Spr r.2 := by
  obtain ⟨a, rfl⟩ := hp
  unfold m_law_sip
  refine be (a := a) rfl ?_
  refine be (pmod_ok h0) ?_
  refine be (a := a) rfl ?_
  refine be (pdiv_ok h0 hm) ?_
  refine be (a := [a / many]) rfl ?_
  exact ⟨Int.emod_nonneg _ (by omega), Int.emod_lt_of_pos _ h0, _, rfl⟩
/-- many written or bounded -/
theorem sip_s {p : List Int} {many : Int} (hp : Spr p) (h0 : 0 < many) (hm : many ≤ 10 ^ 60) : (m_law_sip p many).Ok fun r => 0 ≤ r.1 ∧ r.1 < many ∧ Spr r.2 :=
  sip_o hp h0 (Sm.of (by omega) hm (by unfold Sm; decide +kernel))
theorem spring_o {ns : List Int} {at_ : Int} (h0 : 0 ≤ at_) : (m_law_spring ns at_).Ok Spr := by
  unfold m_law_spring
  refine bi (Q := fun _ => True) (cB (fun h => ?_) fun _ => trivial) fun z _ => ?_
  · have h := of_decide_eq_true h
    obtain ⟨k, rfl⟩ := Int.eq_ofNat_of_zero_le h0
    have hk : k < ns.length := by omega
    exact be (pix_nat (List.getElem?_eq_getElem hk)) trivial
  refine cB (fun _ => ?_) fun _ => ?_
  · refine be (pmul_ok (by decide +kernel) (by decide +kernel)) ?_
    refine be (pmul_ok (by decide +kernel) (by decide +kernel)) ?_
    refine be (pmul_ok (by decide +kernel) (by decide +kernel)) ?_
    refine be (pmul_ok (by decide +kernel) (by decide +kernel)) ?_
    refine be (pmod_ok (by decide +kernel)) ?_
    exact ⟨_, rfl⟩
  · have sm : ∀ x m : Int, 0 < m → m < 2 ^ 62 → (x % m).natAbs < 2 ^ 8000 := fun x m h1 h2 => by
      have g1 := Int.emod_nonneg x (by omega : m ≠ 0)
      have g2 := Int.emod_lt_of_pos x h1
      exact (Sm.of (n := 62) g1 (b := 2 ^ 62 - 1) (by omega) (by unfold Sm; decide)).up (by decide)
    refine foldO (fun s => 0 ≤ s.2.1 ∧ s.2.1 < 2147483497) ⟨Int.emod_nonneg _ (by decide), Int.emod_lt_of_pos _ (by decide)⟩ (fun s x hs _ => ?_) fun s _ => ⟨_, rfl⟩
    have hb : s.2.1.natAbs < 2 ^ 8000 := (Sm.of (n := 62) hs.1 (b := 2 ^ 62 - 1) (by omega) (by unfold Sm; decide)).up (by decide)
    refine be (pmul_ok hb hb) ?_
    refine be (pmul_ok (sm _ _ (by decide) (by decide)) (sm _ _ (by decide) (by decide))) ?_
    exact ⟨Int.emod_nonneg _ (by decide), Int.emod_lt_of_pos _ (by decide)⟩
/-- a comprehension that draws: as many as there are turns -/
theorem compSN {α β σ : Type} {g : σ → α → Res (Option β × σ)} (I : σ → Prop) (Q : β → Prop) {xs : List α} {s : σ} (hl : xs.length ≤ sizeLine) (h0 : I s) (step : ∀ s x, I s → x ∈ xs → (g s x).Ok fun r => (∃ y, r.1 = some y ∧ Q y) ∧ I r.2) : (compS g xs s).Ok fun r => r.1.length = xs.length ∧ (∀ y ∈ r.1, Q y) ∧ I r.2 := by
  unfold compS
  rw [if_pos hl]
  clear hl
  have h : (compSL g xs s).Ok fun r => r.1.length = xs.length ∧ (∀ y ∈ r.1, Q y) ∧ I r.2 := by
    induction xs generalizing s with
    | nil => exact ⟨rfl, (fun y hy => by simp at hy), h0⟩
    | cons x xs ih =>
      show ((g s x).bind _).Ok _
      refine bi (step s x h0 List.mem_cons_self) fun o ⟨⟨y, o1, oy⟩, o2⟩ => ?_
      refine bi (ih o2 fun s y hs hy => step s y hs (List.mem_cons_of_mem _ hy)) fun r ⟨r1, r2, r3⟩ => ?_
      obtain ⟨o, s'⟩ := o
      have o1 : o = some y := o1
      subst o1
      exact ⟨by simp [r1], (fun z hz => by
          have hz : z ∈ y :: r.1 := by simpa using hz
          rcases List.mem_cons.mp hz with e | e
          · rw [e]; exact oy
          · exact r2 z e), r3⟩
  obtain ⟨a, e, q⟩ := h.get
  rw [e]; exact q
/-- a sign of a content -/
def okT (c : Nat) : Bool := c == 48 || (decide (97 ≤ c) && decide (c ≤ 122))
abbrev TxtS (l : List Nat) : Prop := l.all okT = true
def rowB (ok : Nat → Bool) (z : Str) : Bool := decide (0 < (signsL z).length) && decide ((signsL z).length ≤ 30) && (signsL z).all ok
theorem cells_body {ok : Nat → Bool} {tab : List Str} {p : List Int} {len : Int} (hn : (tab.length : Int) = 4) (ht : ∀ z ∈ tab, rowB ok z = true) (hp : Spr p) (h0 : 0 ≤ len) (hm : len ≤ 1000) :
    ((m_law_sip p (4 : Int)).bind fun z1 => (pix tab z1.1).bind fun z2 => (guard (small62 len) ()).bind fun _ => (compS (β := Nat) (fun (s5 : (List Int)) (x4 : Int) => (plenS z2).bind fun z6 => (m_law_sip s5 z6).bind fun z7 => (pixS z2 z7.1).bind fun z8 => Res.ok (some z8, z7.2)) (rangeL 0 (Int.toNat len)) z1.2).bind fun l9 => (pjoin ("" : Str) (l9.1.map chS)).bind fun z10 => Res.ok (z10, l9.2)).Ok
      fun r => ∃ l : List Nat, r.1 = mk l ∧ (l.length : Int) = len ∧ l.all ok = true ∧ Spr r.2 := by
  refine bi (sip_s hp (by decide) (by decide +kernel)) fun z1 ⟨a1, a2, hp⟩ => ?_
  refine bi (pix_of a1 (n := (tab.length : Int)) (by omega) (P := fun z => rowB ok z = true) ht) fun z2 hz => ?_
  simp only [rowB, Bool.and_eq_true, decide_eq_true_eq] at hz
  obtain ⟨⟨z21, z22⟩, z23⟩ := hz
  have hzl : z2.length ≤ 1000000 := by rw [s_len]; omega
  refine bg (small62_of h0 (by omega)) ?_
  refine bi (compSN Spr (fun c => ok c = true) (by rw [rangeL_length, sz]; omega) hp (fun s x hs _ => ?_)) fun r ⟨r1, r2, r3⟩ => ?_
  · refine be (plenS_mk hzl) ?_
    refine bi (sip_s hs (by omega) (by omega)) fun z7 ⟨c1, c2, hs⟩ => ?_
    obtain ⟨k, hk⟩ := Int.eq_ofNat_of_zero_le c1
    have hk2 : k < (signsL z2).length := by omega
    rw [hk]
    refine be (pixS_mk hzl (List.getElem?_eq_getElem hk2)) ?_
    exact ⟨⟨_, rfl, List.all_eq_true.mp z23 _ (List.getElem_mem hk2)⟩, hs⟩
  · rw [rangeL_length] at r1
    have hj := join_chS (f := id) (xs := r.1) (by omega)
    rw [List.map_id] at hj
    refine be hj ?_
    exact ⟨r.1, rfl, by omega, List.all_eq_true.mpr r2, r3⟩
theorem cells_o {p : List Int} {len : Int} (hp : Spr p) (h0 : 0 ≤ len) (hm : len ≤ 1000) : (m_law_cells p len).Ok fun r => ∃ l : List Nat, r.1 = mk l ∧ (l.length : Int) = len ∧ CellS l ∧ Spr r.2 :=
  cells_body (ok := okC) rfl (by decide +kernel) hp h0 hm
theorem text_o {p : List Int} {len : Int} (hp : Spr p) (h0 : 0 ≤ len) (hm : len ≤ 1000) : (m_law_text p len).Ok fun r => ∃ l : List Nat, r.1 = mk l ∧ (l.length : Int) = len ∧ TxtS l ∧ Spr r.2 :=
  cells_body (ok := okT) rfl (by decide +kernel) hp h0 hm
/-- writes: where, what -/
abbrev Wr := Nat × List Nat
def wrV (w : Wr) : Int × Str := ((w.1 : Int), mk w.2)
/-- a write that fits n cells -/
structure WrOk (n : Nat) (w : Wr) : Prop where
  t : TxtS w.2
  e : w.2 ≠ []
  l : w.1 + w.2.length ≤ n
/-! ### drawn writes -/
theorem writes_o {p : List Int} {n : Nat} {most : Int} (hp : Spr p) (hn : n ≤ 1000) (h0 : 0 ≤ most) (hm : most ≤ 1000) : (m_law_writes p (n : Int) most).Ok fun r => ∃ ws : List Wr, r.1 = ws.map wrV ∧ (ws.length : Int) ≤ most ∧ (∀ w ∈ ws, WrOk n w) ∧ Spr r.2 := by
  unfold m_law_writes
  refine bi (sip_s hp (by omega) (by omega)) fun z2 ⟨a1, a2, hp⟩ => ?_
  have hk : ∃ k : Int, (if decide ((0 : Int) < (n : Int)) = true then (1 : Int) else 0) = k ∧ (k = 0 ∨ k = 1) ∧ (k = 1 → 0 < n) := by
    by_cases h : (0 : Int) < (n : Int)
    · exact ⟨1, by rw [decide_eq_true h]; rfl, .inr rfl, fun _ => by omega⟩
    · exact ⟨0, by rw [decide_eq_false h]; rfl, .inl rfl, fun h => by omega⟩
  obtain ⟨k, ek, k1, k2⟩ := hk
  rw [ek]
  refine be (pmul_ok (Sm.of a1 (b := 10 ^ 60) (by omega) (by unfold Sm; decide +kernel)) (by rcases k1 with rfl | rfl <;> decide +kernel)) ?_
  have hz : 0 ≤ z2.1 * k ∧ z2.1 * k ≤ most ∧ (0 < z2.1 * k → k = 1) := by
    rcases k1 with rfl | rfl
    · refine ⟨by omega, by omega, by omega⟩
    · refine ⟨by omega, by omega, fun _ => rfl⟩
  obtain ⟨m, hm'⟩ : ∃ m, m = z2.1 * k := ⟨_, rfl⟩
  rw [← hm'] at hz ⊢
  rw [guard_ok (show small62 m from small62_of hz.1 (by omega)), bind_ok]
  refine foldIO (fun i s => ∃ ws : List Wr, s.1 = ws.map wrV ∧ ws.length = i ∧ (∀ w ∈ ws, WrOk n w) ∧ Spr s.2) ⟨[], rfl, rfl, (fun w h => by simp at h), hp⟩ ?_ ?_
  · rintro i s hi ⟨ws, e1, hl, hw, hp⟩
    have hn0 : 0 < n := k2 (hz.2.2 (by omega))
    refine bi (sip_s hp (by omega) (by omega)) fun z8 ⟨b1, b2, hp⟩ => ?_
    refine bi (sip_s hp (by decide) (by decide +kernel)) fun z9 ⟨c1, c2, hp⟩ => ?_
    refine bi (pix_of c1 c2 (P := fun x => 1 ≤ x ∧ x ≤ 9) (by decide)) fun z10 hz10 => ?_
    refine bi (sip_s hp (by omega) (by omega)) fun z11 ⟨d1, d2, hp⟩ => ?_
    refine bi (text_o hp (by omega) (by omega)) fun z13 ⟨t, t1, t2, t3, hp⟩ => ?_
    rw [t1, e1]
    refine be (a := ws.map wrV ++ [(z8.1, mk t)]) (guard_ok (by rw [List.length_map, sz]; omega)) ?_
    obtain ⟨b, hb⟩ := Int.eq_ofNat_of_zero_le b1
    refine ⟨ws ++ [(b, t)], by rw [hb]; simp [wrV], by simp [hl], fun w hww => ?_, hp⟩
    rcases List.mem_append.mp hww with h | h
    · exact hw w h
    · rw [List.mem_singleton.mp h]
      refine ⟨t3, fun e => ?_, ?_⟩
      · have e : t = [] := e
        rw [e] at t2; simp at t2; omega
      · show b + t.length ≤ n; omega
  · rintro s ⟨ws, e1, hl, hw, hp⟩
    exact ⟨ws, e1, by omega, hw, hp⟩
/-! ### histories: what they read as at each moment -/
theorem text_list : pcat ("0" : Str) ("abcdefghijklmnopqrstuvwxyz" : Str) = .ok (mk [48, 97, 98, 99, 100, 101, 102, 103, 104, 105, 106, 107, 108, 109, 110, 111, 112, 113, 114, 115, 116, 117, 118, 119, 120, 121, 122]) := by
  rw [pcat_mk (by decide)]; rfl
theorem okT_in {c : Nat} : decide (c ∈ [48, 97, 98, 99, 100, 101, 102, 103, 104, 105, 106, 107, 108, 109, 110, 111, 112, 113, 114, 115, 116, 117, 118, 119, 120, 121, 122]) = okT c := by
  rw [Bool.eq_iff_iff]
  simp only [okT, decide_eq_true_eq, List.mem_cons, List.not_mem_nil, or_false, Bool.or_eq_true, Bool.and_eq_true, beq_iff_eq]
  omega
theorem is_content_val {z : Str} (hl : z.length ≤ 1000000) : m_is_content z = .ok ((signsL z).all okT) := by
  unfold m_is_content
  rw [compR_filter (fun c => !okT c) (by rw [← s_len, sz]; omega) (fun c _ => by rw [text_list, bind_ok, signs_mk, okT_in]; cases okT c <;> rfl)]
  rw [bind_ok, andR_ok, cond_true, isE_filter]
  simp
theorem is_write_val {n : Nat} {w : Wr} (h : WrOk n w) (hn : n ≤ 100000) : m_is_write (wrV w) (n : Int) = .ok true := by
  have hl : (mk w.2).length ≤ 1000000 := by have := h.l; rw [mk_len]; omega
  unfold m_is_write
  rw [decide_eq_true rfl, Bool.not_true, cond_false, show m_is_whole (wrV w).1 = .ok true from rfl, bind_ok, cond_true, show (wrV w).2 = mk w.2 from rfl, is_content_val hl, bind_ok, signs_mk, h.t, cond_true, decide_eq_true (show (0 : Int) ≤ (wrV w).1 by show (0 : Int) ≤ (w.1 : Int); omega), andR_ok, cond_true,
    decide_eq_false (fun e => h.e (by have := congrArg signsL e; rw [signs_mk] at this; rw [this]; rfl)), plenS_mk hl, bind_ok, signs_mk]
  rw [decide_eq_true (show (wrV w).1 + ((w.2).length : Int) ≤ (n : Int) by show (w.1 : Int) + _ ≤ _; have := h.l; omega)]
  rfl
theorem check_write_val {n : Nat} {w : Wr} (h : WrOk n w) (hn : n ≤ 100000) : m_check_write (wrV w) (n : Int) = .ok () := by
  unfold m_check_write
  rw [is_write_val h hn]; rfl
theorem file_len_val {l : List Nat} (hl : l.length ≤ 100000) : plenO (m_File_len (mk l)) = .ok (l.length : Int) := by
  unfold plenO m_File_len
  rw [plenS_mk (by rw [mk_len]; omega), signs_mk, bind_ok, ne_ok, bind_ok]
  have h1 : 0 ≤ (l.length : Int) ∧ (l.length : Int) < 2 ^ 63 := ⟨by omega, by omega⟩
  exact guard_ok h1
/-- a file and writes that fit it -/
structure HistOk (l : List Nat) (ws : List Wr) : Prop where
  c : CellS l
  n : l.length ≤ 10000
  w : ∀ w ∈ ws, WrOk l.length w
  m : ws.length ≤ 10000
abbrev hisV (l : List Nat) (ws : List Wr) : Str × List (Int × Str) := (mk l, ws.map wrV)
theorem foldR_unit {α : Type} {f : Unit → α → Res Unit} : ∀ {xs : List α}, (∀ x ∈ xs, f () x = .ok ()) → foldR f xs () = .ok ()
  | [], _ => rfl
  | x :: xs, h => by rw [foldR_cons, h x List.mem_cons_self, bind_ok]; exact foldR_unit fun y hy => h y (List.mem_cons_of_mem _ hy)
theorem check_file_val {z : Str} : m_check_file z = .ok () := rfl
theorem history_val {l : List Nat} {ws : List Wr} (h : HistOk l ws) : m_History_make (mk l) (some (ws.map wrV)) = .ok (hisV l ws) := by
  unfold m_History_make
  rw [check_file_val, bind_ok]
  show (foldR _ (ws.map wrV) ()).bind _ = _
  rw [foldR_unit fun x hx => by
    obtain ⟨w, hw, rfl⟩ := List.mem_map.mp hx
    have := h.n
    rw [file_len_val (by omega), bind_ok, check_write_val (h.w w hw) (by omega)]; rfl]
  rfl
/-! ### lines of a text -/
theorem tl_nl : TL.tl ("\n" : Str) = 10 :: [] := by decide +kernel
theorem tl_sp : TL.tl (" " : Str) = 32 :: [] := by decide +kernel
theorem k_nl : ("\n" : Str).cps.all (· < 256) = true := by decide +kernel
/-- no line ends in it -/
def Fr (z : Str) : Prop := 10 ∉ signsL z
instance {z : Str} : Decidable (Fr z) := inferInstanceAs (Decidable (¬ _))
def lenS (ls : List Str) : Nat := (ls.map (·.length)).sum
theorem lenS_cons {x : Str} {ls : List Str} : lenS (x :: ls) = x.length + lenS ls := by simp [lenS]
theorem lenS_le {xs : List Str} {B : Nat} (h : ∀ z ∈ xs, z.length ≤ B) : lenS xs ≤ xs.length * B := by
  induction xs with
  | nil => simp [lenS]
  | cons x xs ih =>
    rw [lenS_cons, List.length_cons, Nat.succ_mul]
    have := h x List.mem_cons_self; have := ih fun z hz => h z (List.mem_cons_of_mem _ hz); omega
abbrev joinN (ls : List Str) : Str := Txt.join ("\n" : Str) ls
theorem joinN_val {ls : List Str} (h : lenS ls + ls.length ≤ 1000000) : pjoin ("\n" : Str) ls = .ok (joinN ls) := guard_ok (by
  show lenS ls + ls.length * ("\n" : Str).length ≤ 16777216
  rw [show ("\n" : Str).length = 1 from rfl]; omega)
theorem joinN_len {ls : List Str} : (joinN ls).length ≤ lenS ls + ls.length := by
  have h := StrLaws.join_length_le ("\n" : Str) ls
  rw [show ("\n" : Str).length = 1 from rfl] at h
  unfold joinN
  rw [TL.join_eq]
  unfold lenS; omega
theorem splitN_val {ls : List Str} (hne : ls ≠ []) (hf : ∀ z ∈ ls, Fr z) (h : lenS ls + ls.length ≤ 1000000) : psplit (joinN ls) ("\n" : Str) = .ok ls := by
  unfold psplit
  have := joinN_len (ls := ls)
  rw [guard_ok ⟨rfl, by rw [sz]; omega⟩, TL.split_join tl_nl k_nl hne hf]
theorem joinN_one {x : Str} : joinN [x] = x := by unfold joinN; rw [TL.join_eq]; rfl
theorem joinN_cons {x y : Str} {r : List Str} : signsL (joinN (x :: y :: r)) = signsL x ++ 10 :: signsL (joinN (y :: r)) := by
  unfold joinN
  rw [TL.join_eq, TL.join_eq]
  refine (TL.tl_join _ _).trans ?_
  rw [tl_nl]
  show TL.tl x ++ (10 :: [] ++ TL.joinL [10] (TL.tl y :: r.map TL.tl)) = _
  refine congrArg (TL.tl x ++ 10 :: ·) ?_
  refine ((TL.tl_join _ _).trans ?_).symm
  rw [tl_nl]; rfl
theorem joinN_ne {x y : Str} {r : List Str} : joinN (x :: y :: r) ≠ ("" : Str) := fun e => by
  have := congrArg signsL e
  rw [joinN_cons] at this
  have h : signsL ("" : Str) = [] := by first | rfl | decide +kernel
  rw [h] at this
  simp at this
theorem joinN_snoc : ∀ {ls : List Str}, ls ≠ [] → ∀ {x : Str}, signsL (joinN (ls ++ [x])) = signsL (joinN ls) ++ 10 :: signsL x
  | [], h, _ => absurd rfl h
  | [y], _, x => by rw [List.singleton_append, joinN_cons, joinN_one, joinN_one]
  | y :: z :: r, _, x => by
    show signsL (joinN (y :: z :: (r ++ [x]))) = _
    rw [joinN_cons, show z :: (r ++ [x]) = (z :: r) ++ [x] from rfl, joinN_snoc (by simp), joinN_cons, List.append_assoc]; rfl
/-- a text and a line's end behind it -/
theorem catN_val {ls : List Str} (hne : ls ≠ []) (h : lenS ls + ls.length ≤ 900000) : pcat (joinN ls) ("\n" : Str) = .ok (joinN (ls ++ [("" : Str)])) := by
  have hl := joinN_len (ls := ls)
  rw [pcat_mk (by rw [show ("\n" : Str).length = 1 from rfl]; omega)]
  congr 1
  apply s_ext
  rw [joinN_snoc hne, signs_mk, show signsL ("\n" : Str) = [10] from tl_nl, show signsL ("" : Str) = [] from by first | rfl | decide +kernel]
/-! ### the parts of a line -/
theorem part_val {a b : List Nat} (h : 32 ∉ a) (hl : a.length + b.length ≤ 100000) : ppart (mk (a ++ 32 :: b)) (" " : Str) = .ok (mk a, (" " : Str), mk b) := by
  unfold ppart
  rw [guard_ok ⟨rfl, by rw [mk_len, sz, List.length_append, List.length_cons]; omega⟩]
  have e : mk (a ++ 32 :: b) = mk a ++ (" " : Str) ++ mk b := s_ext (by
    refine Eq.trans ?_ (TL.tl_append _ _).symm
    refine Eq.trans ?_ (congrArg (· ++ TL.tl (mk b)) (TL.tl_append (mk a) (" " : Str))).symm
    rw [tl_sp]; show a ++ 32 :: b = (a ++ [32]) ++ b; simp)
  rw [e, TL.partition_app tl_sp h]
theorem part_no {a : List Nat} (h : 32 ∉ a) (hl : a.length ≤ 100000) : ppart (mk a) (" " : Str) = .ok (mk a, ("" : Str), ("" : Str)) := by
  unfold ppart
  rw [guard_ok ⟨rfl, by rw [mk_len, sz]; omega⟩, TL.partition_none tl_sp h]; rfl
/-! ### numbers as texts -/
def nS (n : Nat) : Str := mk (TL.numL n)
theorem nS_of (n : Nat) : Str.ofString (toString ((n : Nat) : Int)) = nS n := s_ext (TL.tl_num n)
theorem strI_val {n k : Nat} (hk : 0 < k) (hk2 : k ≤ 500) (h : n < 10 ^ k) : pstrI (n : Int) = .ok (nS n) := by
  unfold pstrI
  rw [guard_ok (by
    refine lg (n := 1920) ?_ (by decide)
    have e : 10 ^ k ≤ 10 ^ 500 := Nat.pow_le_pow_right (by decide) hk2
    have e2 : (10 : Nat) ^ 500 < 2 ^ 1920 := by decide +kernel
    omega)]
  exact congrArg Res.ok (nS_of n)
theorem numL_head (n : Nat) : 0 < n → ∃ c r, TL.numL n = c :: r ∧ c ≠ 48 := by
  induction n using Nat.strongRecOn with
  | _ n ih =>
    intro h0
    by_cases h : n < 10
    · exact ⟨48 + n, [], TL.numL_lt h, by omega⟩
    · obtain ⟨c, r, e, hc⟩ := ih (n / 10) (by omega) (by omega)
      exact ⟨c, r ++ [48 + n % 10], by rw [TL.numL_step (by omega), e]; rfl, hc⟩
def digB (c : Nat) : Bool := decide (48 ≤ c) && decide (c ≤ 57)
theorem dig_list : signsL ("0123456789" : Str) = [48, 49, 50, 51, 52, 53, 54, 55, 56, 57] := by first | rfl | decide +kernel
theorem dig_in {c : Nat} : decide (c ∈ signsL ("0123456789" : Str)) = digB c := by
  rw [dig_list, Bool.eq_iff_iff]
  simp only [digB, decide_eq_true_eq, List.mem_cons, List.not_mem_nil, or_false, Bool.and_eq_true]
  omega
theorem e_list : signsL ("" : Str) = [] := by first | rfl | decide +kernel
theorem z_list : signsL ("0" : Str) = [48] := by first | rfl | decide +kernel
theorem word_ne {a b : List Nat} {x : Str} (e : signsL x = b) (h : a ≠ b) : decide (mk a = x) = false := decide_eq_false fun g => h (by rw [← e, ← g])
theorem word_eq {a : List Nat} {x : Str} (e : signsL x = a) : decide (mk a = x) = true := decide_eq_true (by rw [← e, mk_signs])
/-- a word that writes no number -/
theorem number_none {a : List Nat} (hl : a.length ≤ 100000) (h : a = [] ∨ a.all digB = false) : m_number_in (mk a) = .ok none := by
  unfold m_number_in
  by_cases ha : a = []
  · rw [ha, word_eq e_list]; rfl
  · rw [word_ne e_list ha, cond_false, compR_filter (fun c => !digB c) (by rw [signs_mk, sz]; omega) (fun c _ => by rw [dig_in]; cases digB c <;> rfl), bind_ok, signs_mk, isE_filter]
    have h : a.all digB = false := h.resolve_left ha
    simp only [Bool.not_not]
    rw [h]; rfl
theorem number_val {n : Nat} (hn : (TL.numL n).length ≤ 600) : m_number_in (nS n) = .ok (some (n : Int)) := by
  unfold m_number_in
  have hd : (TL.numL n).all digB = true := List.all_eq_true.mpr fun c hc => by have := TL.numL_digits n c hc; unfold digB; simp; omega
  rw [show nS n = mk (TL.numL n) from rfl, word_ne e_list (TL.numL_ne n), cond_false, compR_filter (fun c => !digB c) (by rw [signs_mk, sz]; omega) (fun c _ => by rw [dig_in]; cases digB c <;> rfl), bind_ok, signs_mk, isE_filter]
  simp only [Bool.not_not]
  rw [hd, Bool.not_true, cond_false]
  have hp : pintS (mk (TL.numL n)) = .ok (n : Int) := by
    unfold pintS
    have e := TL.int_num (n := n) (by omega)
    rw [nS_of] at e
    rw [show mk (TL.numL n) = nS n from rfl, e]
    exact guard_ok (by show (mk (TL.numL n)).length ≤ 640; rw [mk_len]; omega)
  rcases Nat.eq_zero_or_pos n with h0 | h0
  · subst h0
    have e : TL.numL 0 = [48] := TL.numL_lt (by decide)
    rw [e] at hp ⊢
    rw [show ((0 : Int)) = ((0 : Nat) : Int) from rfl, pixS_mk (c := 48) (by rw [mk_len]; decide) rfl, bind_ok, word_eq z_list]
    exact (bind_eq hp)
  · obtain ⟨c, r, e, hc⟩ := numL_head n h0
    rw [show ((0 : Int)) = ((0 : Nat) : Int) from rfl, pixS_mk (c := c) (by rw [mk_len]; omega) (by rw [signs_mk, e]; rfl), bind_ok, andR_ok]
    rw [show chS c = mk [c] from rfl, word_ne z_list (by simpa using hc), cond_false, bind_ok, cond_false]
    exact bind_eq hp
/-! ### the lines of steps -/
theorem whole_val {n : Int} : m_is_whole n = .ok true := by unfold m_is_whole; rw [andR_ok]; rfl
theorem least_val {n : Int} (h : 1 ≤ n) : m_check_least n 1 = .ok () := by
  unfold m_check_least
  rw [whole_val, bind_ok, cond_true, decide_eq_false (by omega)]; rfl
theorem keep_val {n : Int} (h : 1 ≤ n) : m_Keep_make n = .ok n := by unfold m_Keep_make; rw [least_val h]; rfl
theorem lean_val {n : Int} (h : 1 ≤ n) : m_Lean_make n = .ok n := by unfold m_Lean_make; rw [least_val h]; rfl
theorem dig_val {n : Int} (h : 1 ≤ n) : m_Dig_make n = .ok n := by unfold m_Dig_make; rw [least_val h]; rfl
def fullL : List Nat := [102, 117, 108, 108]
def keepL : List Nat := [107, 101, 101, 112]
def leanL : List Nat := [108, 101, 97, 110]
def digL : List Nat := [100, 105, 103]
theorem full_l : signsL ("full" : Str) = fullL := by first | rfl | decide +kernel
theorem keep_l : signsL ("keep" : Str) = keepL := by first | rfl | decide +kernel
theorem lean_l : signsL ("lean" : Str) = leanL := by first | rfl | decide +kernel
theorem dig_l : signsL ("dig" : Str) = digL := by first | rfl | decide +kernel
def stL : StepT → List Nat
  | .full => fullL
  | .keep n => keepL ++ 32 :: TL.numL n.toNat
  | .lean n => leanL ++ 32 :: TL.numL n.toNat
  | .dig n => digL ++ 32 :: TL.numL n.toNat
def StOk : StepT → Prop
  | .full => True
  | .keep n | .lean n | .dig n => 1 ≤ n ∧ n < 10 ^ 100
theorem numL_100 {n : Int} (h0 : 1 ≤ n) (h : n < 10 ^ 100) : (TL.numL n.toNat).length ≤ 100 := TL.numL_len (by decide) (by
  have e : ((10 ^ 100 : Nat) : Int) = 10 ^ 100 := by decide +kernel
  have : n.toNat < 10 ^ 100 := by
    have h2 : n < ((10 ^ 100 : Nat) : Int) := by rw [e]; exact h
    have h3 : ((n.toNat : Nat) : Int) = n := Int.toNat_of_nonneg (by omega)
    rw [← h3] at h2
    exact Int.ofNat_lt.mp h2
  exact this)
theorem space_ne {w b l : List Nat} (h : 32 ∉ l) : w ++ 32 :: b ≠ l := fun e => h (by rw [← e]; simp)
theorem step_word {w : List Nat} {n : Int} (hw : 32 ∉ w) (hl : w.length ≤ 100) (h1 : 1 ≤ n) (h2 : n < 10 ^ 100) : m_step_in (mk (w ++ 32 :: TL.numL n.toNat)) =
    cond (decide (mk w = ("keep" : Str))) ((m_Keep_make n).bind fun z7 => Res.ok (some (StepT.keep z7))) (cond (decide (mk w = ("lean" : Str))) ((m_Lean_make n).bind fun z9 => Res.ok (some (StepT.lean z9))) ((cond (decide (mk w = ("dig" : Str))) ((m_Dig_make n).bind fun z11 => Res.ok (some (StepT.dig z11))) (Res.ok none)).bind fun z12 => Res.ok z12)) := by
  have hn := numL_100 h1 h2
  unfold m_step_in
  rw [word_ne full_l (space_ne (by decide)), cond_false, part_val hw (by omega), bind_ok]
  show (m_number_in (nS n.toNat)).bind _ = _
  rw [number_val (by omega), bind_ok]
  have e : ((n.toNat : Nat) : Int) = n := Int.toNat_of_nonneg (by omega)
  rw [e]
  show (cond (decide (n < 1)) (Res.ok none) _ : Res (Option StepT)) = _
  rw [decide_eq_false (by omega)]; rfl
theorem step_val {s : StepT} (h : StOk s) : m_step_in (mk (stL s)) = .ok (some s) := by
  cases s with
  | full => unfold m_step_in; rw [show mk (stL .full) = mk fullL from rfl, word_eq full_l]; rfl
  | keep n =>
    show m_step_in (mk (keepL ++ 32 :: TL.numL n.toNat)) = _
    rw [step_word (by decide) (by decide) h.1 h.2, word_eq keep_l, cond_true, keep_val h.1]; rfl
  | lean n =>
    show m_step_in (mk (leanL ++ 32 :: TL.numL n.toNat)) = _
    rw [step_word (by decide) (by decide) h.1 h.2, word_ne keep_l (by decide), cond_false, word_eq lean_l, cond_true, lean_val h.1]; rfl
  | dig n =>
    show m_step_in (mk (digL ++ 32 :: TL.numL n.toNat)) = _
    rw [step_word (by decide) (by decide) h.1 h.2, word_ne keep_l (by decide), cond_false, word_ne lean_l (by decide), cond_false, word_eq dig_l, cond_true, dig_val h.1]; rfl
theorem stL_len {s : StepT} (h : StOk s) : (stL s).length ≤ 110 := by
  cases s with
  | full => decide
  | keep n => have := numL_100 h.1 h.2; show (keepL ++ 32 :: TL.numL n.toNat).length ≤ 110; rw [List.length_append, List.length_cons, show keepL.length = 4 from rfl]; omega
  | lean n => have := numL_100 h.1 h.2; show (leanL ++ 32 :: TL.numL n.toNat).length ≤ 110; rw [List.length_append, List.length_cons, show leanL.length = 4 from rfl]; omega
  | dig n => have := numL_100 h.1 h.2; show (digL ++ 32 :: TL.numL n.toNat).length ≤ 110; rw [List.length_append, List.length_cons, show digL.length = 3 from rfl]; omega
theorem free_app {a b : List Nat} (ha : 10 ∉ a) {n : Nat} (e : b = TL.numL n) : 10 ∉ a ++ 32 :: b := by
  subst e
  intro h
  rcases List.mem_append.mp h with h | h
  · exact ha h
  · rcases List.mem_cons.mp h with h | h
    · exact absurd h (by decide)
    · exact TL.numL_free (.inl (by decide)) h
theorem stL_free {s : StepT} : 10 ∉ stL s := by
  cases s with
  | full => decide
  | keep n => exact free_app (by decide) rfl
  | lean n => exact free_app (by decide) rfl
  | dig n => exact free_app (by decide) rfl
/-! ### the lines of writes -/
def wrL (w : Wr) : List Nat := TL.numL w.1 ++ 32 :: w.2
theorem num32 {n : Nat} : 32 ∉ TL.numL n := TL.numL_free (.inl (by decide))
theorem is_write3_val {n : Nat} {w : Wr} (h : WrOk n w) (hn : n ≤ 100000) : m_is_write__v3 (some (w.1 : Int), mk w.2) (n : Int) = .ok true := by
  have hl : (mk w.2).length ≤ 1000000 := by have := h.l; rw [mk_len]; omega
  unfold m_is_write__v3
  rw [decide_eq_true rfl, Bool.not_true, cond_false, show m_is_whole__v3 (some (w.1 : Int), mk w.2).1 = .ok true from rfl, bind_ok, cond_true, show (some (w.1 : Int), mk w.2).2 = mk w.2 from rfl, is_content_val hl, bind_ok, signs_mk, h.t, cond_true]
  show ((andR (Res.ok (decide ((0 : Int) ≤ (w.1 : Int)))) (andR (Res.ok (!decide (mk w.2 = ("" : Str)))) ((plenS (mk w.2)).bind fun z7 => Res.ok (decide (((w.1 : Int) + z7) ≤ (n : Int)))))).bind fun z9 => Res.ok z9) = _
  rw [decide_eq_true (show (0 : Int) ≤ (w.1 : Int) by omega), andR_ok, cond_true, word_ne e_list h.e, plenS_mk hl, bind_ok, signs_mk, decide_eq_true (show (w.1 : Int) + ((w.2).length : Int) ≤ (n : Int) by have := h.l; omega)]
  rfl
theorem write_val {n : Nat} {w : Wr} (h : WrOk n w) (hn : n ≤ 10000) : m_write_in (mk (wrL w)) (n : Int) = .ok (some (wrV w)) := by
  have := h.l
  have hk : (TL.numL w.1).length ≤ 10 := TL.numL_len (by decide) (by omega)
  unfold m_write_in
  rw [show mk (wrL w) = mk (TL.numL w.1 ++ 32 :: w.2) from rfl, part_val num32 (by omega), bind_ok]
  show (m_number_in (nS w.1)).bind _ = _
  rw [number_val (by omega), bind_ok]
  rw [is_write3_val h (by omega), bind_ok, cond_true]; rfl
theorem wrL_len {n : Nat} {w : Wr} (h : WrOk n w) (hn : n ≤ 10000) : (wrL w).length ≤ n + 11 := by
  have := h.l
  have hk : (TL.numL w.1).length ≤ 10 := TL.numL_len (by decide) (by omega)
  unfold wrL; rw [List.length_append, List.length_cons]; omega
theorem txt_free {t : List Nat} (h : TxtS t) : 10 ∉ t := fun hc => by have := List.all_eq_true.mp h 10 hc; exact absurd this (by decide)
theorem wrL_free {n : Nat} {w : Wr} (h : WrOk n w) : 10 ∉ wrL w := by
  intro hc
  rcases List.mem_append.mp hc with hc | hc
  · exact TL.numL_free (.inl (by decide)) hc
  · rcases List.mem_cons.mp hc with hc | hc
    · exact absurd hc (by decide)
    · exact txt_free h.t hc
theorem iadd_val {l : List Nat} {ws : List Wr} {w : Wr} (hl : l.length ≤ 10000) (hw : WrOk l.length w) (hn : ws.length ≤ 10000) : m_History_iadd (mk l, ws.map wrV) (wrV w) = .ok ((ws ++ [w]).map wrV) := by
  unfold m_History_iadd
  rw [file_len_val (by omega), bind_ok, check_write_val hw (by omega), bind_ok]
  unfold papp
  rw [guard_ok (by rw [List.length_map, sz]; omega), bind_ok, List.map_append]; rfl
/-! ### what is read of lines -/
def enumF {α : Type} (j : Nat) : List α → List (Int × α)
  | [] => []
  | x :: xs => ((j : Int), x) :: enumF (j + 1) xs
theorem enum_zip {α : Type} : ∀ {xs : List α} {j : Nat}, (xs.zipIdx j).map (fun q => ((q.2 : Int), q.1)) = enumF j xs
  | [], _ => rfl
  | x :: xs, j => by rw [List.zipIdx_cons, List.map_cons, enum_zip]; rfl
theorem enumL_F {α : Type} {xs : List α} : enumL xs = enumF 0 xs := enum_zip
/-- reading line by line -/
def rsF (s4 : List StepT) (x5 : Int × Str) : Res (List StepT) := (m_step_in x5.2).bind fun z8 => cond (z8.isNone) (Res.err ⟨.text, (Any.int (x5.1 + (1 : Int)))⟩) ((punO z8).bind fun z11 => (papp s4 z11).bind fun z10 => Res.ok z10)
theorem rs_good : ∀ {ss : List StepT} {k : Nat} {s : List StepT} {q : List Str}, (∀ x ∈ ss, StOk x) → s.length + ss.length ≤ 100000 → foldR rsF (enumF k (ss.map (fun x => mk (stL x)) ++ q)) s = foldR rsF (enumF (k + ss.length) q) (s ++ ss)
  | [], k, s, q, _, _ => by simp
  | x :: ss, k, s, q, h, hl => by
    rw [List.length_cons] at hl
    show foldR rsF (((k : Int), mk (stL x)) :: enumF (k + 1) (ss.map (fun x => mk (stL x)) ++ q)) s = _
    rw [foldR_cons]
    have e : rsF s ((k : Int), mk (stL x)) = .ok (s ++ [x]) := by
      unfold rsF
      rw [step_val (h x List.mem_cons_self), bind_ok]
      show (papp s x).bind _ = _
      unfold papp
      rw [guard_ok (by rw [sz]; omega)]; rfl
    rw [e, bind_ok, rs_good (fun y hy => h y (List.mem_cons_of_mem _ hy)) (by rw [List.length_append]; simp only [List.length_cons, List.length_nil]; omega), List.append_assoc, List.length_cons]
    congr 2; omega
theorem rs_bad {k : Nat} {s : List StepT} {x : Str} {q : List Str} (h : m_step_in x = .ok none) : foldR rsF (enumF k (x :: q)) s = .err ⟨.text, .int ((k : Int) + 1)⟩ := by
  show foldR rsF (((k : Int), x) :: enumF (k + 1) q) s = _
  rw [foldR_cons]
  unfold rsF
  rw [h]; rfl
theorem read_lines {ls : List Str} (hne : ls ≠ []) (hj : joinN ls ≠ ("" : Str)) (hf : ∀ z ∈ ls, Fr z) (h : lenS ls + ls.length ≤ 1000000) : m_read_script (joinN ls) = (foldR rsF (enumF 0 ls) []).bind fun s4 => (m_Script_make (some s4)).bind fun z17 => Res.ok z17 := by
  unfold m_read_script
  rw [decide_eq_false hj, cond_false, splitN_val hne hf h, bind_ok, bind_ok, enumL_F]; rfl
theorem script_make {ss : List StepT} (h : ss.length ≤ 100000) : m_Script_make (some ss) = .ok ss := by
  unfold m_Script_make m_are_steps
  show ((andR (Res.ok true) ((compR (β := StepT) (fun x1 => Res.ok none) ss).bind fun l2 => Res.ok (l2.isEmpty))).bind fun z3 => Res.ok z3).bind _ = _
  rw [compR_none (by rw [sz]; omega) (fun _ _ => rfl)]
  exact guard_ok rfl
/-- a line that writes no step -/
theorem read_bad {ss : List StepT} {x : Str} {q : List Str} (hs : ∀ y ∈ ss, StOk y) (hl : ss.length ≤ 1000) (hx : m_step_in x = .ok none) (hj : joinN (ss.map (fun x => mk (stL x)) ++ x :: q) ≠ ("" : Str))
    (hf : ∀ z ∈ ss.map (fun x => mk (stL x)) ++ x :: q, Fr z) (h : lenS (ss.map (fun x => mk (stL x)) ++ x :: q) + (ss.map (fun x => mk (stL x)) ++ x :: q).length ≤ 1000000) : m_read_script (joinN (ss.map (fun x => mk (stL x)) ++ x :: q)) = .err ⟨.text, .int ((ss.length : Int) + 1)⟩ := by
  rw [read_lines (by simp) hj hf h, rs_good hs (by simp; omega), rs_bad hx, Nat.zero_add]; rfl
theorem read_good {ss : List StepT} (hs : ∀ y ∈ ss, StOk y) (hl : ss.length ≤ 1000) (hne : ss ≠ []) : m_read_script (joinN (ss.map fun x => mk (stL x))) = .ok ss := by
  have hj : joinN (ss.map fun x => mk (stL x)) ≠ ("" : Str) := by
    match ss, hne with
    | [x], _ =>
      rw [List.map_singleton, joinN_one]
      intro e
      have := congrArg signsL e
      rw [signs_mk, e_list] at this
      revert this
      cases x <;> simp [stL, fullL, keepL, leanL, digL]
    | x :: y :: r, _ => exact joinN_ne
  rw [read_lines (by simpa using hne) hj (fun z hz => by
      obtain ⟨x, _, rfl⟩ := List.mem_map.mp hz
      unfold Fr; rw [signs_mk]; exact stL_free) (by
      have := lenS_le (xs := ss.map fun x => mk (stL x)) (B := 110) (fun z hz => by
        obtain ⟨x, hx, rfl⟩ := List.mem_map.mp hz
        rw [mk_len]; exact stL_len (hs x hx))
      rw [List.length_map] at this ⊢; omega)]
  have := rs_good (ss := ss) (k := 0) (s := []) (q := []) hs (by simp; omega)
  rw [List.append_nil] at this
  rw [this]
  show (m_Script_make (some ([] ++ ss))).bind _ = _
  rw [List.nil_append, script_make (by omega)]; rfl
/-- reading a history line by line -/
def rhF (l : List Nat) (s13 : List (Int × Str)) (x14 : Int × Str) : Res (List (Int × Str)) := (m_write_in x14.2 (l.length : Int)).bind fun z19 => cond (z19.isNone) (Res.err ⟨.text, (Any.int (x14.1 + (2 : Int)))⟩) ((punO z19).bind fun z21 => (m_History_iadd (mk l, s13) z21).ne.bind fun z22 => Res.ok z22)
theorem rh_good {l : List Nat} (hl : l.length ≤ 10000) : ∀ {ws : List Wr} {k : Nat} {s : List Wr} {q : List Str}, (∀ x ∈ ws, WrOk l.length x) → s.length + ws.length ≤ 10000 → foldR (rhF l) (enumF k (ws.map (fun x => mk (wrL x)) ++ q)) (s.map wrV) = foldR (rhF l) (enumF (k + ws.length) q) ((s ++ ws).map wrV)
  | [], k, s, q, _, _ => by simp
  | x :: ws, k, s, q, h, hn => by
    rw [List.length_cons] at hn
    show foldR (rhF l) (((k : Int), mk (wrL x)) :: enumF (k + 1) (ws.map (fun x => mk (wrL x)) ++ q)) _ = _
    rw [foldR_cons]
    have e : rhF l (s.map wrV) ((k : Int), mk (wrL x)) = .ok ((s ++ [x]).map wrV) := by
      unfold rhF
      rw [write_val (h x List.mem_cons_self) hl, bind_ok]
      show ((m_History_iadd (mk l, s.map wrV) (wrV x)).ne.bind fun z22 => Res.ok z22) = _
      rw [iadd_val hl (h x List.mem_cons_self) (by omega)]; rfl
    rw [e, bind_ok, rh_good hl (fun y hy => h y (List.mem_cons_of_mem _ hy)) (by rw [List.length_append]; simp only [List.length_cons, List.length_nil]; omega), List.append_assoc, List.length_cons]
    congr 2; omega
theorem rh_bad {l : List Nat} {k : Nat} {s : List (Int × Str)} {x : Str} {q : List Str} (h : m_write_in x (l.length : Int) = .ok none) : foldR (rhF l) (enumF k (x :: q)) s = .err ⟨.text, .int ((k : Int) + 2)⟩ := by
  show foldR (rhF l) (((k : Int), x) :: enumF (k + 1) q) s = _
  rw [foldR_cons]
  unfold rhF
  rw [h]; rfl
theorem hist_make0 {l : List Nat} : m_History_make (mk l) none = .ok (mk l, []) := rfl
theorem foldR_fun {α σ : Type} {f g : σ → α → Res σ} (h : ∀ s x, f s x = g s x) {xs : List α} {s : σ} : foldR f xs s = foldR g xs s := by rw [show f = g from funext fun s => funext fun x => h s x]
theorem readh_lines {l : List Nat} (hc : CellS l) (hl : l.length ≤ 10000) {ls : List Str} (hf : ∀ z ∈ mk l :: ls, Fr z) (h : lenS (mk l :: ls) + (mk l :: ls).length ≤ 1000000) : m_read_history (joinN (mk l :: ls)) = (foldR (rhF l) (enumF 0 ls) []).bind fun s13 => Res.ok (mk l, s13) := by
  unfold m_read_history
  rw [splitN_val (by simp) hf h, bind_ok]
  have e0 : pix (mk l :: ls) (0 : Int) = .ok (mk l) := pix_nat (i := 0) rfl
  rw [e0, bind_ok, are_cells_val (by rw [mk_len]; omega), signs_mk, hc, bind_ok, cond_true, bind_ok, file_ok (by omega) hc, bind_ok, hist_make0, bind_ok]
  rw [show cutD (mk l :: ls) (some (1 : Int)) none = ls from cutD_from (i := 1), enumL_F]
  exact congrArg (Res.bind · _) (foldR_fun fun s x => by
    rw [bind_ok, plenS_mk (by rw [mk_len]; omega), bind_ok, signs_mk]; rfl)
theorem readh_head {h : Str} {ls : List Str} (hf : ∀ z ∈ h :: ls, Fr z) (hl : lenS (h :: ls) + (h :: ls).length ≤ 1000000) (hc : (signsL h).all okC = false) : m_read_history (joinN (h :: ls)) = .err ⟨.text, .int 1⟩ := by
  unfold m_read_history
  rw [splitN_val (by simp) hf hl, bind_ok]
  have e0 : pix (h :: ls) (0 : Int) = .ok h := pix_nat (i := 0) rfl
  rw [e0, bind_ok, are_cells_val (by rw [lenS_cons] at hl; omega), hc]; rfl
theorem readh_good {l : List Nat} {ws : List Wr} (h : HistOk l ws) (hm : ws.length ≤ 90) : m_read_history (joinN (mk l :: ws.map fun x => mk (wrL x))) = .ok (hisV l ws) := by
  rw [readh_lines h.c h.n (fun z hz => by
      rcases List.mem_cons.mp hz with rfl | hz
      · unfold Fr; rw [signs_mk]; exact fun hc => by have := List.all_eq_true.mp h.c 10 hc; exact absurd this (by decide)
      · obtain ⟨x, hx, rfl⟩ := List.mem_map.mp hz
        unfold Fr; rw [signs_mk]; exact wrL_free (h.w x hx)) (by
      have h9 := lenS_le (xs := ws.map fun x => mk (wrL x)) (B := 10011) (fun z hz => by
        obtain ⟨x, hx, rfl⟩ := List.mem_map.mp hz
        rw [mk_len]; have := wrL_len (h.w x hx) h.n; have := h.n; omega)
      have := h.n
      rw [List.length_map] at h9
      rw [lenS_cons, mk_len, List.length_cons, List.length_map]; omega)]
  have := rh_good (l := l) h.n (ws := ws) (k := 0) (s := []) (q := []) h.w (by simp; omega)
  rw [List.append_nil] at this
  rw [show ([] : List (Int × Str)) = ([] : List Wr).map wrV from rfl, this, List.nil_append]; rfl
theorem readh_bad {l : List Nat} {ws : List Wr} (h : HistOk l ws) (hm : ws.length ≤ 1000) {x : Str} {q : List Str} (hx : m_write_in x (l.length : Int) = .ok none) (hf : ∀ z ∈ mk l :: (ws.map (fun x => mk (wrL x)) ++ x :: q), Fr z)
    (hs : lenS (mk l :: (ws.map (fun x => mk (wrL x)) ++ x :: q)) + (mk l :: (ws.map (fun x => mk (wrL x)) ++ x :: q)).length ≤ 1000000) : m_read_history (joinN (mk l :: (ws.map (fun x => mk (wrL x)) ++ x :: q))) = .err ⟨.text, .int ((ws.length : Int) + 2)⟩ := by
  rw [readh_lines h.c h.n hf hs]
  have := rh_good (l := l) h.n (ws := ws) (k := 0) (s := []) (q := x :: q) h.w (by simp; omega)
  rw [show ([] : List (Int × Str)) = ([] : List Wr).map wrV from rfl, this, rh_bad hx, Nat.zero_add]; rfl
/-! ### k81: lines that are drawn -/
theorem catL_ok {α : Type} {a b : List α} (h : a.length + b.length ≤ 1000000) : pcatL a b = .ok (a ++ b) := guard_ok (by rw [sz]; omega)
theorem papp_ok {α : Type} {a : List α} {x : α} (h : a.length ≤ 1000000) : papp a x = .ok (a ++ [x]) := guard_ok (by rw [sz]; omega)
theorem one_of4 {P : Int → Prop} {i : Int} (h0 : 0 ≤ i) (h1 : i < 4) (a : P 0) (b : P 1) (c : P 2) (d : P 3) : P i := by
  have : i = 0 ∨ i = 1 ∨ i = 2 ∨ i = 3 := by omega
  rcases this with rfl | rfl | rfl | rfl <;> assumption
theorem steps_o {p : List Int} (hp : Spr p) : (m_law_steps p).Ok fun r => ∃ ss : List StepT, r.1 = ss.map (fun s => mk (stL s)) ∧ (∀ s ∈ ss, StOk s) ∧ 1 ≤ ss.length ∧ ss.length ≤ 8 ∧ Spr r.2 := by
  unfold m_law_steps
  refine bi (sip_s hp (by decide) (by decide)) fun r hr => ?_
  refine bg (small62_of (by omega) (by omega)) ?_
  refine foldIO (lo := 0) (fun i (s : List Str × List Int) => ∃ ss : List StepT, s.1 = ss.map (fun s => mk (stL s)) ∧ (∀ s ∈ ss, StOk s) ∧ ss.length = i ∧ Spr s.2) ⟨[], rfl, by simp, rfl, hr.2.2⟩ (fun i s hi hs => ?_) (fun s hs => ?_)
  · obtain ⟨ss, e, hss, hl, hsp⟩ := hs
    refine bi (sip_s hsp (by decide) (by decide)) fun w hw => ?_
    have key : ∀ z8 : Str, (∃ m : Int → StepT, (∀ n : Int, 1 ≤ n → n ≤ 30 → StOk (m n)) ∧ ∀ n : Int, 1 ≤ n → n ≤ 30 → (prepS (nS n.toNat) (if (!decide (z8 = ("full" : Str))) then 1 else 0 : Int)).bind (fun z12 => pcat z8 z12) = .ok (mk (stL (m n)))) →
        ((m_law_sip w.2 (30 : Int)).bind fun z10 => (pstrI ((1 : Int) + z10.1)).bind fun z11 => (prepS z11 (if (!decide (z8 = ("full" : Str))) then 1 else 0 : Int)).bind fun z12 => (pcat z8 z12).bind fun z13 => (papp s.1 z13).bind fun z9 => Res.ok (z9, z10.2)).Ok (fun s => ∃ ss : List StepT, s.1 = ss.map (fun s => mk (stL s)) ∧ (∀ s ∈ ss, StOk s) ∧ ss.length = i + 1 ∧ Spr s.2) := fun z8 ⟨m, hm, hz⟩ => by
      refine bi (sip_s hw.2.2 (by decide) (by decide)) fun n hn => ?_
      have en : (1 : Int) + n.1 = (((1 + n.1).toNat : Nat) : Int) := (Int.toNat_of_nonneg (by omega)).symm
      rw [en]
      refine be (strI_val (k := 2) (by decide) (by decide) (by omega)) ?_
      rw [← bind_bind, hz (1 + n.1) (by omega) (by omega), bind_ok, e, papp_ok (by rw [List.length_map]; omega), bind_ok]
      exact ⟨ss ++ [m (1 + n.1)], by simp, fun x hx => by
        rcases List.mem_append.mp hx with hx | hx
        · exact hss x hx
        · rw [List.mem_singleton.mp hx]; exact hm _ (by omega) (by omega), by simp [hl], hn.2.2⟩
    have b30 : (30 : Int) < 10 ^ 100 := by decide +kernel
    have big : ∀ n : Int, 1 ≤ n → n ≤ 30 → 1 ≤ n ∧ n < 10 ^ 100 := fun n h1 h2 => ⟨h1, Int.lt_of_le_of_lt h2 b30⟩
    have wd : ∀ (z8 : Str) (l : List Nat) (m : Int → StepT), signsL z8 = l ++ [32] → l.length ≤ 10 → decide (z8 = ("full" : Str)) = false → (∀ n : Int, stL (m n) = l ++ 32 :: TL.numL n.toNat) → ∀ n : Int, 1 ≤ n → n ≤ 30 → (prepS (nS n.toNat) (if (!decide (z8 = ("full" : Str))) then 1 else 0 : Int)).bind (fun z12 => pcat z8 z12) = .ok (mk (stL (m n))) := fun z8 l m e1 e4 e2 e3 n h1 h2 => by
      rw [e2]
      have hn := numL_100 (n := n) h1 (big n h1 h2).2
      have ln : (nS n.toNat).length ≤ 100 := by show (mk _).length ≤ 100; rw [mk_len]; exact hn
      show (prepS (nS n.toNat) 1).bind _ = _
      rw [prepS_mk (by decide) (by show _ * 1 ≤ _; omega) (by decide), bind_ok]
      have lz : z8.length ≤ 11 := by rw [s_len, e1]; simp; omega
      have er : (List.replicate (Int.toNat 1) (signsL (nS n.toNat))).flatten = TL.numL n.toNat := by
        show (List.replicate 1 (TL.numL n.toNat)).flatten = _
        simp
      rw [er, pcat_mk (by rw [mk_len (l := TL.numL n.toNat)]; omega), e1, e3, signs_mk]
      congr 2
      simp
    refine bi (Q := fun z8 => ∃ m : Int → StepT, (∀ n : Int, 1 ≤ n → n ≤ 30 → StOk (m n)) ∧ ∀ n : Int, 1 ≤ n → n ≤ 30 → (prepS (nS n.toNat) (if (!decide (z8 = ("full" : Str))) then 1 else 0 : Int)).bind (fun z12 => pcat z8 z12) = .ok (mk (stL (m n)))) ?_ fun z8 h8 => key z8 h8
    refine one_of4 (P := fun i => (pix ([("full" : Str), ("keep " : Str), ("lean " : Str), ("dig " : Str)] : List Str) i).Ok _) hw.1 hw.2.1 ?_ ?_ ?_ ?_
    · refine ok_of rfl ⟨fun _ => .full, fun _ _ _ => trivial, fun n h1 h2 => ?_⟩
      rw [show decide (("full" : Str) = ("full" : Str)) = true from by decide]
      show (prepS (nS n.toNat) 0).bind _ = _
      rw [prepS_mk (by decide) (by show _ * 0 ≤ _; omega) (by decide), bind_ok]
      have er : (List.replicate (Int.toNat 0) (signsL (nS n.toNat))).flatten = [] := by
        show (List.replicate 0 (signsL (nS n.toNat))).flatten = _
        simp
      rw [er]
      exact (pcat_mk (by decide +kernel)).trans (by rw [full_l]; rfl)
    · exact ok_of rfl ⟨.keep, big, wd _ keepL .keep (by decide +kernel) (by decide) (by decide +kernel) fun _ => rfl⟩
    · exact ok_of rfl ⟨.lean, big, wd _ leanL .lean (by decide +kernel) (by decide) (by decide +kernel) fun _ => rfl⟩
    · exact ok_of rfl ⟨.dig, big, wd _ digL .dig (by decide +kernel) (by decide) (by decide +kernel) fun _ => rfl⟩
  · obtain ⟨ss, e, hss, hl, hsp⟩ := hs
    exact ⟨ss, e, hss, by omega, by omega, hsp⟩
/-! ### lines that write no step -/
structure NS (z : Str) : Prop where
  n : m_step_in z = .ok none
  f : Fr z
  l : z.length ≤ 300
def noneB {α : Type} : Res (Option α) → Bool
  | .ok none => true
  | _ => false
theorem of_noneB {α : Type} {m : Res (Option α)} (h : noneB m = true) : m = .ok none := by
  match m with
  | .ok none => rfl
  | .ok (some _) => cases h
  | .err _ => cases h
  | .bad => cases h
  | .all _ => cases h
def nsB (z : Str) : Bool := noneB (m_step_in z) && (decide (Fr z) && decide (z.length ≤ 300))
theorem ns_of {z : Str} (h : nsB z = true) : NS z := by
  simp only [nsB, Bool.and_eq_true, decide_eq_true_eq] at h
  exact ⟨of_noneB h.1, h.2.1, h.2.2⟩
theorem ns_all {zs : List Str} (h : zs.all nsB = true) : ∀ z ∈ zs, NS z := fun z hz => ns_of (List.all_eq_true.mp h z hz)
/-- a word, a space and no number -/
theorem step_sp {w b : List Nat} (hw : 32 ∉ w) (hl : w.length + b.length ≤ 1000) (hb : b = [] ∨ b.all digB = false) : m_step_in (mk (w ++ 32 :: b)) = .ok none := by
  unfold m_step_in
  by_cases h : w ++ 32 :: b = fullL
  · exact absurd h (space_ne (by decide))
  · rw [word_ne full_l h, cond_false, part_val hw (by omega), bind_ok]
    show (m_number_in (mk b)).bind _ = _
    rw [number_none (by omega) hb]; rfl
theorem any_dig {l : List Nat} {c : Nat} (hc : digB c = false) : (l ++ [c]).all digB = false := by rw [List.all_append]; simp [hc]
theorem lastc_bad {s : StepT} (h : StOk s) {c : Nat} (hc : digB c = false) (h32 : c = 32 ∨ c = 120) : m_step_in (mk (stL s ++ [c])) = .ok none := by
  have wd : ∀ (w : List Nat) (n : Int), 1 ≤ n ∧ n < 10 ^ 100 → 32 ∉ w → w.length ≤ 10 → m_step_in (mk ((w ++ 32 :: TL.numL n.toNat) ++ [c])) = .ok none := fun w n hn h1 h2 => by
    have := numL_100 hn.1 hn.2
    rw [List.append_assoc, List.cons_append]
    exact step_sp h1 (by rw [List.length_append]; simp; omega) (.inr (any_dig hc))
  cases s with
  | full => rcases h32 with rfl | rfl <;> exact of_noneB (by decide +kernel)
  | keep n => exact wd keepL n h (by decide) (by decide)
  | lean n => exact wd leanL n h (by decide) (by decide)
  | dig n => exact wd digL n h (by decide) (by decide)
theorem headc_bad {s : StepT} (h : StOk s) : m_step_in (mk (32 :: stL s)) = .ok none := by
  refine step_sp (w := []) (by simp) (by have := stL_len h; simp; omega) (.inr ?_)
  cases s <;> simp [stL, fullL, keepL, leanL, digL, digB]
theorem no_steps_o {s : StepT} (h : StOk s) : (m_law_no_steps (mk (stL s))).Ok fun bs => ∀ z ∈ bs, NS z := by
  have hl := stL_len h
  unfold m_law_no_steps
  refine be (catL_ok (by decide)) ?_
  refine be (catL_ok (by decide)) ?_
  refine be (catL_ok (by decide)) ?_
  refine be (pcat_mk (by show (mk (stL s)).length + 1 ≤ _; rw [mk_len]; omega)) ?_
  refine be (pcat_mk (by show (mk (stL s)).length + 1 ≤ _; rw [mk_len]; omega)) ?_
  refine be (pcat_mk (by show 1 + (mk (stL s)).length ≤ _; rw [mk_len]; omega)) ?_
  refine be (catL_ok (by simp)) ?_
  rw [signs_mk, show signsL (" " : Str) = [32] from tl_sp, show signsL ("x" : Str) = [120] from by decide +kernel]
  intro z hz
  rcases List.mem_append.mp hz with hz | hz
  · exact ns_all (by decide +kernel) z hz
  · simp only [List.mem_cons, List.not_mem_nil, or_false] at hz
    have fr : ∀ c : Nat, c ≠ 10 → Fr (mk (stL s ++ [c])) := fun c hc => by
      unfold Fr; rw [signs_mk]; intro hm
      rcases List.mem_append.mp hm with hm | hm
      · exact stL_free hm
      · exact hc (List.mem_singleton.mp hm).symm
    rcases hz with rfl | rfl | rfl | rfl | rfl
    · exact ns_of (by decide +kernel)
    · exact ns_of (by decide +kernel)
    · exact ⟨lastc_bad h rfl (.inl rfl), fr 32 (by decide), by rw [mk_len]; simp; omega⟩
    · exact ⟨lastc_bad h rfl (.inr rfl), fr 120 (by decide), by rw [mk_len]; simp; omega⟩
    · exact ⟨headc_bad h, by
        unfold Fr; rw [signs_mk]; intro hm
        rcases List.mem_append.mp hm with hm | hm
        · exact absurd (List.mem_singleton.mp hm) (by decide)
        · exact stL_free hm, by rw [mk_len]; simp; omega⟩
/-! ### lines that write no write -/
structure NWr (n : Nat) (z : Str) : Prop where
  n : m_write_in z (n : Int) = .ok none
  f : Fr z
  l : z.length ≤ 300
def nwB (n : Nat) (z : Str) : Bool := noneB (m_write_in z (n : Int)) && (decide (Fr z) && decide (z.length ≤ 300))
theorem nw_of {n : Nat} {z : Str} (h : nwB n z = true) : NWr n z := by
  simp only [nwB, Bool.and_eq_true, decide_eq_true_eq] at h
  exact ⟨of_noneB h.1, h.2.1, h.2.2⟩
def allB {α : Type} (p : α → Bool) : Res (List α) → Bool
  | .ok xs => xs.all p
  | _ => false
theorem of_allB {α : Type} {p : α → Bool} {m : Res (List α)} (h : allB p m = true) : m.Ok fun xs => ∀ x ∈ xs, p x = true := by
  cases m with
  | ok xs => exact List.all_eq_true.mp h
  | err _ => cases h
  | bad => cases h
  | all _ => cases h
theorem no_writes_all : (List.range 13).all (fun n => allB (nwB n) (m_law_no_writes (n : Int))) = true := by decide +kernel
theorem no_writes_o {n : Nat} (hn : n < 13) : (m_law_no_writes (n : Int)).Ok fun bs => ∀ z ∈ bs, NWr n z :=
  (of_allB (List.all_eq_true.mp no_writes_all n (List.mem_range.mpr hn))).imp fun _ h z hz => nw_of (h z hz)
/-! ### k81: what is told of texts -/
theorem spot0_err {t : Str} {v : Any} (h : m_read_script t = .err ⟨.text, v⟩) : m_law_spot 0 t = .ok [v] := by
  unfold m_law_spot
  rw [decide_eq_true rfl, cond_true, h]; rfl
theorem spot0_ok {t : Str} {ss : List StepT} (h : m_read_script t = .ok ss) : m_law_spot 0 t = .ok [.str ("read" : Str)] := by
  unfold m_law_spot
  rw [decide_eq_true rfl, cond_true, h]; rfl
theorem spot1_err {t : Str} {v : Any} (h : m_read_history t = .err ⟨.text, v⟩) : m_law_spot 1 t = .ok [v] := by
  unfold m_law_spot
  rw [decide_eq_false (by decide), cond_false, h]; rfl
theorem spot1_ok {t : Str} {r : Str × List (Int × Str)} (h : m_read_history t = .ok r) : m_law_spot 1 t = .ok [.str ("read" : Str)] := by
  unfold m_law_spot
  rw [decide_eq_false (by decide), cond_false, h]; rfl
/-- lines that are no great ones -/
structure LnOk (ls : List Str) : Prop where
  f : ∀ z ∈ ls, Fr z ∧ z.length ≤ 300
  n : ls.length ≤ 50
theorem LnOk.sum {ls : List Str} (h : LnOk ls) : lenS ls + ls.length ≤ 20000 := by
  have := lenS_le (xs := ls) (B := 300) fun z hz => (h.f z hz).2
  have := h.n
  omega
theorem LnOk.app {a b : List Str} (h : LnOk a) (g : LnOk b) (hn : a.length + b.length ≤ 50) : LnOk (a ++ b) := ⟨fun z hz => by
  rcases List.mem_append.mp hz with hz | hz
  · exact h.f z hz
  · exact g.f z hz, by rw [List.length_append]; omega⟩
theorem told_o {p : List Int} (hp : Spr p) {way : Int} {lines : List Str} {first : Nat} {bad : List Str} (hL : LnOk lines) (hn : lines.length ≤ 10) (hb : ∀ x ∈ bad, Fr x ∧ x.length ≤ 300) (hf : first ≤ lines.length)
    (H : ∀ x ∈ bad, ∀ k, first ≤ k → k ≤ lines.length → ∀ q : List Str, LnOk (lines.take k ++ x :: q) → joinN (lines.take k ++ x :: q) ≠ ("" : Str) → m_law_spot way (joinN (lines.take k ++ x :: q)) = .ok [.int ((k : Int) + 1)]) :
    (m_law_all_told p way lines (first : Int) bad).Ok fun r => r.1 = true ∧ Spr r.2 := by
  unfold m_law_all_told
  refine forO (fun s => Spr s) hp (fun s x hs hx => ?_) (fun s hs => ⟨rfl, hs⟩)
  refine bi (sip_s hs (by omega) (Int.le_trans (by omega : _ ≤ (1000 : Int)) (by decide))) fun z5 h5 => ?_
  refine bi (sip_s h5.2.2 (by decide) (by decide)) fun z6 h6 => ?_
  obtain ⟨k, ek⟩ : ∃ k : Nat, (first : Int) + z5.1 = (k : Int) := ⟨first + z5.1.toNat, by omega⟩
  rw [ek]
  have hk1 : first ≤ k := by omega
  have hk2 : k ≤ lines.length := by omega
  have e1 : cutD lines (some (k : Int)) none = lines.drop k := cutD_from
  have e2 : cutD lines (some ((k : Int) + 1)) none = lines.drop (k + 1) := cutD_from (i := k + 1)
  have e3 : cutD lines none (some (k : Int)) = lines.take k := cutD_to
  rw [e1, e2, e3]
  refine bi (Q := fun q => LnOk q ∧ q.length ≤ 20) ?_ fun q hq => ?_
  · refine one_of4 (P := fun i => (pix ([lines.drop k, lines.drop (k + 1), [], [("x" : Str), ("" : Str)]] : List (List Str)) i).Ok _) h6.1 h6.2.1 ?_ ?_ ?_ ?_
    · exact ok_of rfl ⟨⟨fun z hz => hL.f z (List.mem_of_mem_drop hz), by rw [List.length_drop]; omega⟩, by rw [List.length_drop]; omega⟩
    · exact ok_of rfl ⟨⟨fun z hz => hL.f z (List.mem_of_mem_drop hz), by rw [List.length_drop]; omega⟩, by rw [List.length_drop]; omega⟩
    · exact ok_of rfl ⟨⟨by simp, by simp⟩, by simp⟩
    · refine ok_of rfl ⟨⟨fun z hz => ?_, by decide⟩, by decide⟩
      simp only [List.mem_cons, List.not_mem_nil, or_false] at hz
      rcases hz with rfl | rfl <;> exact ⟨by decide +kernel, by decide +kernel⟩
  have lt : (lines.take k).length ≤ 10 := by rw [List.length_take]; omega
  refine be (catL_ok (by simp; omega)) ?_
  refine be (catL_ok (by simp; omega)) ?_
  rw [List.append_assoc, List.singleton_append]
  have hA : LnOk (lines.take k ++ x :: q) := ⟨fun z hz => by
    rcases List.mem_append.mp hz with hz | hz
    · exact hL.f z (List.mem_of_mem_take hz)
    · rcases List.mem_cons.mp hz with rfl | hz
      · exact hb z hx
      · exact hq.1.f z hz, by rw [List.length_append, List.length_cons]; omega⟩
  refine be (joinN_val (by have := hA.sum; omega)) ?_
  have hs6 := h6.2.2
  by_cases j : joinN (lines.take k ++ x :: q) = ("" : Str)
  · rw [decide_eq_true j]; exact ⟨_, rfl, hs6⟩
  · rw [decide_eq_false j, andR_ok, Bool.not_false, cond_true, H x hx k hk1 hk2 q hA j, bind_ok, ne_self sv_int, bind_ok, bind_ok, cond_false]
    exact ⟨_, rfl, hs6⟩
abbrev stLs (ss : List StepT) : List Str := ss.map fun s => mk (stL s)
abbrev wrLs (ws : List Wr) : List Str := ws.map fun w => mk (wrL w)
theorem stLs_ok {ss : List StepT} (h : ∀ s ∈ ss, StOk s) (hn : ss.length ≤ 50) : LnOk (stLs ss) := ⟨fun z hz => by
  obtain ⟨s, hs, rfl⟩ := List.mem_map.mp hz
  exact ⟨by unfold Fr; rw [signs_mk]; exact stL_free, by rw [mk_len]; have := stL_len (h s hs); omega⟩, by rw [List.length_map]; exact hn⟩
theorem spot_step {ss : List StepT} (hs : ∀ s ∈ ss, StOk s) (hn : ss.length ≤ 10) {x : Str} (hx : m_step_in x = .ok none) {q : List Str} (hA : LnOk (stLs ss ++ x :: q)) (j : joinN (stLs ss ++ x :: q) ≠ ("" : Str)) :
    m_law_spot 0 (joinN (stLs ss ++ x :: q)) = .ok [.int ((ss.length : Int) + 1)] :=
  spot0_err (read_bad hs (by omega) hx j (fun z hz => (hA.f z hz).1) (Nat.le_trans hA.sum (by decide)))
theorem told0_o {p : List Int} (hp : Spr p) {ss : List StepT} (hs : ∀ s ∈ ss, StOk s) (hn : ss.length ≤ 10) {bad : List Str} (hb : ∀ x ∈ bad, NS x) : (m_law_all_told p 0 (stLs ss) 0 bad).Ok fun r => r.1 = true ∧ Spr r.2 := by
  refine told_o (first := 0) hp (stLs_ok hs (by omega)) (by rw [List.length_map]; exact hn) (fun x hx => ⟨(hb x hx).f, (hb x hx).l⟩) (by omega) fun x hx k _ hk q hA j => ?_
  rw [List.length_map] at hk
  rw [← List.map_take] at hA j ⊢
  have e : (ss.take k).length = k := by rw [List.length_take]; omega
  have := spot_step (fun s h => hs s (List.mem_of_mem_take h)) (by omega) (hb x hx).n hA j
  rw [e] at this
  exact this
theorem cell_free {l : List Nat} (h : CellS l) : 10 ∉ l := fun hc => by have := List.all_eq_true.mp h 10 hc; exact absurd this (by decide)
theorem rows_ok {l : List Nat} {ws : List Wr} (h : HistOk l ws) (hl : l.length ≤ 100) (hn : ws.length ≤ 40) : LnOk (mk l :: wrLs ws) := ⟨fun z hz => by
  rcases List.mem_cons.mp hz with rfl | hz
  · exact ⟨by unfold Fr; rw [signs_mk]; exact cell_free h.c, by rw [mk_len]; omega⟩
  · obtain ⟨w, hw, rfl⟩ := List.mem_map.mp hz
    exact ⟨by unfold Fr; rw [signs_mk]; exact wrL_free (h.w w hw), by rw [mk_len]; have := wrL_len (h.w w hw) h.n; omega⟩, by rw [List.length_cons, List.length_map]; omega⟩
theorem spot_write {l : List Nat} {ws : List Wr} (h : HistOk l ws) (hn : ws.length ≤ 100) {x : Str} (hx : m_write_in x (l.length : Int) = .ok none) {q : List Str} (hA : LnOk (mk l :: (wrLs ws ++ x :: q))) :
    m_law_spot 1 (joinN (mk l :: (wrLs ws ++ x :: q))) = .ok [.int ((ws.length : Int) + 2)] :=
  spot1_err (readh_bad h (by omega) hx (fun z hz => (hA.f z hz).1) (Nat.le_trans hA.sum (by decide)))
theorem told1_o {p : List Int} (hp : Spr p) {l : List Nat} {ws : List Wr} (h : HistOk l ws) (hl : l.length ≤ 100) (hn : ws.length ≤ 9) {bad : List Str} (hb : ∀ x ∈ bad, NWr l.length x) : (m_law_all_told p 1 (mk l :: wrLs ws) 1 bad).Ok fun r => r.1 = true ∧ Spr r.2 := by
  refine told_o (first := 1) hp (rows_ok h hl (by omega)) (by rw [List.length_cons, List.length_map]; omega) (fun x hx => ⟨(hb x hx).f, (hb x hx).l⟩) (by simp) fun x hx k hk1 hk q hA j => ?_
  rw [List.length_cons, List.length_map] at hk
  obtain ⟨k, rfl⟩ : ∃ m, k = m + 1 := ⟨k - 1, by omega⟩
  rw [List.take_succ_cons, ← List.map_take, List.cons_append] at hA j ⊢
  have e : (ws.take k).length = k := by rw [List.length_take]; omega
  have h2 : HistOk l (ws.take k) := ⟨h.c, h.n, fun w hw => h.w w (List.mem_of_mem_take hw), by omega⟩
  have := spot_write h2 (by omega) (hb x hx).n hA
  rw [e] at this
  rw [this]
  congr 3
/-! ### values that are no texts -/
theorem spot2 {v : Any} (h : pisA prR "str" v = .ok false) : m_law_spot__v2 0 v = .ok [Any.non] ∧ m_law_spot__v2 1 v = .ok [Any.non] := by
  constructor
  · unfold m_law_spot__v2 m_read_script__v2
    rw [decide_eq_true rfl, cond_true, h]; rfl
  · unfold m_law_spot__v2 m_read_history__v2
    rw [decide_eq_false (by decide), cond_false, h]; rfl
/-! ### k81: the law -/
theorem wr_row {n : Nat} {w : Wr} (h : WrOk n w) (hn : n ≤ 1000) {k : Str → Res (Option Str)} : ((pstrI (wrV w).1).bind fun z27 => (pcat z27 (" " : Str)).bind fun z28 => (pcat z28 (wrV w).2).bind k) = k (mk (wrL w)) := by
  have := h.l
  have hk : (TL.numL w.1).length ≤ 5 := TL.numL_len (by decide) (by omega)
  show ((pstrI (w.1 : Int)).bind _) = _
  rw [strI_val (k := 5) (by decide) (by decide) (by omega), bind_ok, pcat_mk (by show (mk _).length + 1 ≤ _; rw [mk_len]; omega), bind_ok]
  show (pcat (mk (signsL (nS w.1) ++ signsL (" " : Str))) (mk w.2)).bind k = _
  rw [show signsL (" " : Str) = [32] from tl_sp, show signsL (nS w.1) = TL.numL w.1 from rfl, pcat_mk (by rw [mk_len, mk_len]; simp; omega), bind_ok, signs_mk, signs_mk]
  congr 2
  show TL.numL w.1 ++ [32] ++ w.2 = TL.numL w.1 ++ 32 :: w.2
  simp
theorem rows_val {l : List Nat} {ws : List Wr} (h : HistOk l ws) (hn : l.length ≤ 1000) : compR (β := Str) (fun (x26 : Int × Str) => (pstrI x26.1).bind fun z27 => (pcat z27 (" " : Str)).bind fun z28 => (pcat z28 x26.2).bind fun z29 => Res.ok (some z29)) (ws.map wrV) = .ok (wrLs ws) := by
  have := compR_map (f := fun (x26 : Int × Str) => (pstrI x26.1).bind fun z27 => (pcat z27 (" " : Str)).bind fun z28 => (pcat z28 x26.2).bind fun z29 => Res.ok (some z29)) (fun p : Int × Str => mk (wrL (p.1.toNat, signsL p.2))) (xs := ws.map wrV) (by rw [List.length_map, sz]; have := h.m; omega) (fun x hx => by
    obtain ⟨w, hw, rfl⟩ := List.mem_map.mp hx
    rw [wr_row (h.w w hw) hn]
    show Res.ok (some (mk (wrL w))) = Res.ok (some (mk (wrL ((w.1 : Int).toNat, signsL (mk w.2)))))
    rw [signs_mk, Int.toNat_natCast])
  rw [this, List.map_map]
  congr 1
theorem step_e : m_step_in ("" : Str) = .ok none := of_noneB (by decide +kernel)
theorem lawA {z8 : List Str × List Int} (hp : Spr z8.2) {ss : List StepT} (e8 : z8.1 = stLs ss) (hs : ∀ s ∈ ss, StOk s) (h1 : 1 ≤ ss.length) (h8 : ss.length ≤ 8) {k : Bool × List Int → Res (Ctl Unit Bool)} {Q : Ctl Unit Bool → Prop} (hk : ∀ r, Spr r.2 → (k r).Out Q (fun _ => False)) :
    ((pix z8.1 (0 : Int)).bind fun z9 => (m_law_no_steps z9).bind fun z10 => (m_law_all_told z8.2 (0 : Int) z8.1 (0 : Int) z10).bind fun z11 => cond z11.1 ((pjoin ("\n" : Str) z8.1).bind fun z13 => (m_law_spot (0 : Int) z13).bind fun z14 => ((peqA z14 ([(Any.str ("read" : Str))] : List Any)).bind fun b => Res.ok !b).bind fun z15 => cond z15 (Res.ok (Ctl.rt false)) ((pjoin ("\n" : Str) z8.1).bind fun z17 => (pcat z17 ("\n" : Str)).bind fun z18 => (m_law_spot (0 : Int) z18).bind fun z19 => ((peqA z19 ([(Any.int ((z8.1.length : Int) + (1 : Int)))] : List Any)).bind fun b => Res.ok !b).bind fun z20 => cond z20 (Res.ok (Ctl.rt false)) (k z11))) (Res.ok (Ctl.rt false))).Out Q (fun _ => False) := by
  rw [e8]
  have hL := stLs_ok hs (by omega)
  obtain ⟨s0, sr, rfl⟩ : ∃ s0 sr, ss = s0 :: sr := by
    cases ss with
    | nil => simp at h1
    | cons a b => exact ⟨a, b, rfl⟩
  refine bE (a := mk (stL s0)) (pix_nat (i := 0) rfl) ?_
  refine bO (no_steps_o (hs s0 List.mem_cons_self)) fun z10 h10 => ?_
  refine bO (told0_o hp hs (by omega) h10) fun z11 h11 => ?_
  refine oT h11.1 ?_
  have ej : pjoin ("\n" : Str) (stLs (s0 :: sr)) = .ok (joinN (stLs (s0 :: sr))) := joinN_val (Nat.le_trans hL.sum (by decide))
  refine bE ej ?_
  refine bE (spot0_ok (read_good hs (by omega) (by simp))) ?_
  refine bE (ne_self sv_str) ?_
  refine oF rfl ?_
  refine bE ej ?_
  refine bE (catN_val (by simp) (Nat.le_trans hL.sum (by decide))) ?_
  have hA : LnOk (stLs (s0 :: sr) ++ ("" : Str) :: []) := hL.app ⟨fun z hz => by rw [List.mem_singleton.mp hz]; exact ⟨by decide +kernel, by decide +kernel⟩, by simp⟩ (by rw [List.length_map]; simp at h8 ⊢; omega)
  have hj : joinN (stLs (s0 :: sr) ++ ("" : Str) :: []) ≠ ("" : Str) := by
    cases sr with
    | nil => exact joinN_ne
    | cons a b => exact joinN_ne
  refine bE (spot_step hs (by omega) step_e hA hj) ?_
  rw [show (((stLs (s0 :: sr)).length : Int)) = (((s0 :: sr).length : Nat) : Int) by rw [List.length_map]]
  refine bE (ne_self sv_int) ?_
  refine oF rfl ?_
  exact hk _ h11.2
theorem heads_bad {l : List Nat} {a b c : Str} (ea : signsL a = l ++ [32]) (eb : signsL b = l ++ [45]) (ec : signsL c = 32 :: l) (hl : CellS l) (hn : l.length ≤ 12) :
    ∀ x ∈ ([("A" : Str), ("a b" : Str), a, b, c, ("0 a" : Str), ("1" : Str)] : List Str), (Fr x ∧ x.length ≤ 300) ∧ (signsL x).all okC = false := by
  have f := cell_free hl
  intro x hx
  simp only [List.mem_cons, List.not_mem_nil, or_false] at hx
  rcases hx with rfl | rfl | rfl | rfl | rfl | rfl | rfl
  · exact ⟨⟨by decide +kernel, by decide +kernel⟩, by decide +kernel⟩
  · exact ⟨⟨by decide +kernel, by decide +kernel⟩, by decide +kernel⟩
  · exact ⟨⟨by unfold Fr; rw [ea]; simp [f], by rw [s_len, ea]; simp; omega⟩, by rw [ea, List.all_append]; simp [okC]⟩
  · exact ⟨⟨by unfold Fr; rw [eb]; simp [f], by rw [s_len, eb]; simp; omega⟩, by rw [eb, List.all_append]; simp [okC]⟩
  · exact ⟨⟨by unfold Fr; rw [ec]; simp [f], by rw [s_len, ec]; simp; omega⟩, by rw [ec, List.all_cons]; simp [okC]⟩
  · exact ⟨⟨by decide +kernel, by decide +kernel⟩, by decide +kernel⟩
  · exact ⟨⟨by decide +kernel, by decide +kernel⟩, by decide +kernel⟩
theorem law_ok (ns : List Int) (h : ns.length ≤ 63) : (m_law ns).Out (fun r => r = true) (fun _ => False) := by
  unfold m_law
  refine foF (fun _ => True) trivial (fun _ at_ _ hat => ?_) fun _ _ => ?_
  · have hat := mem_rangeL.mp hat
    refine bO (spring_o hat.1) fun z6 h6 => ?_
    refine bO (steps_o h6) fun z8 h8 => ?_
    obtain ⟨ss, e8, hs, h1, h9, hp⟩ := h8
    refine lawA hp e8 hs h1 h9 fun z11 hp => ?_
    refine bO (sip_s hp (by decide) (by decide)) fun z22 h22 => ?_
    refine bO (cells_o h22.2.2 h22.1 (by omega)) fun z23 h23 => ?_
    obtain ⟨c23, p23⟩ := z23
    obtain ⟨l, e23, hl, hc, hp⟩ := h23
    simp only at e23 hp
    subst e23
    have hl12 : l.length ≤ 12 := by omega
    refine bE (plenS_mk (by rw [mk_len]; omega)) ?_
    rw [signs_mk]
    refine bO (writes_o hp (by omega) (by decide) (by decide)) fun z25 h25 => ?_
    obtain ⟨w25, p25⟩ := z25
    obtain ⟨ws, e25, hw, hws, hp⟩ := h25
    simp only at e25 hp
    subst e25
    have hH : HistOk l ws := ⟨hc, by omega, hws, by omega⟩
    refine bE (rows_val hH (by omega)) ?_
    refine bE (catL_ok (by simp; omega)) ?_
    rw [List.singleton_append]
    refine bE (plenS_mk (by rw [mk_len]; omega)) ?_
    rw [signs_mk]
    refine bO (no_writes_o (by omega)) fun z33 h33 => ?_
    refine bO (told1_o hp hH (by omega) (by omega) h33) fun z34 h34 => ?_
    refine oT h34.1 ?_
    have hR := rows_ok hH (by omega) (by omega)
    refine bE (pcat_mk (by show (mk l).length + 1 ≤ _; rw [mk_len]; omega)) ?_
    refine bE (pcat_mk (by show (mk l).length + 1 ≤ _; rw [mk_len]; omega)) ?_
    refine bE (pcat_mk (by show 1 + (mk l).length ≤ _; rw [mk_len]; omega)) ?_
    refine foF (fun _ => True) trivial (fun _ x _ hx => ?_) fun _ _ => ?_
    · have hb := heads_bad (by rw [signs_mk, signs_mk]; rfl) (by rw [signs_mk, signs_mk]; rfl) (by rw [signs_mk, signs_mk]; rfl) hc hl12 x hx
      rw [show cutD (mk l :: wrLs ws) (some (1 : Int)) none = wrLs ws from cutD_from (i := 1)]
      have hA : LnOk (x :: wrLs ws) := ⟨fun z hz => by
        rcases List.mem_cons.mp hz with rfl | hz
        · exact hb.1
        · exact hR.f z (List.mem_cons_of_mem _ hz), by have := hR.n; simpa using this⟩
      refine bE (catL_ok (by simp; omega)) ?_
      rw [List.singleton_append]
      refine bE (joinN_val (Nat.le_trans hA.sum (by decide))) ?_
      refine bE (spot1_err (readh_head (fun z hz => (hA.f z hz).1) (Nat.le_trans hA.sum (by decide)) hb.2)) ?_
      refine bE (ne_self sv_int) ?_
      refine oF rfl ?_
      exact nxA trivial
    · have ej : pjoin ("\n" : Str) (mk l :: wrLs ws) = .ok (joinN (mk l :: wrLs ws)) := joinN_val (Nat.le_trans hR.sum (by decide))
      refine bE ej ?_
      refine bE (spot1_ok (readh_good hH (by omega))) ?_
      refine bE (ne_self sv_str) ?_
      refine oF rfl ?_
      refine bE ej ?_
      refine bE (catN_val (by simp) (Nat.le_trans hR.sum (by decide))) ?_
      have hA : LnOk (mk l :: (wrLs ws ++ ("" : Str) :: [])) := hR.app (b := [("" : Str)]) ⟨fun z hz => by rw [List.mem_singleton.mp hz]; exact ⟨by decide +kernel, by decide +kernel⟩, by simp⟩ (by rw [List.length_cons, List.length_map]; simp; omega)
      have hx : m_write_in ("" : Str) (l.length : Int) = .ok none := by
        have hnum := number_none (a := []) (by decide) (.inl rfl)
        unfold m_write_in
        rw [show ("" : Str) = mk [] from rfl, part_no (by decide) (by decide), bind_ok]
        show (m_number_in (mk [])).bind _ = _
        rw [hnum]; rfl
      refine bE (spot_write hH (by omega) hx hA) ?_
      rw [show ((((mk l :: wrLs ws).length : Int)) + 1) = ((ws.length : Int) + 2) by rw [List.length_cons, List.length_map]; omega]
      refine bE (ne_self sv_int) ?_
      refine oF rfl ?_
      intro q60
      refine bE (file_ok (by omega) hc) ?_
      intro q62
      refine bE (file_ok (by omega) hc) ?_
      refine bE (history_val hH) ?_
      intro q65
      refine foF (fun _ => True) trivial (fun _ v _ hv => ?_) fun _ _ => nxA trivial
      have hv : pisA prR "str" v = .ok false := by
        simp only [List.mem_cons, List.not_mem_nil, or_false] at hv
        rcases hv with rfl | rfl | rfl | rfl | rfl | rfl | rfl | rfl
        · rfl
        · rfl
        · rfl
        · rfl
        · rfl
        · rfl
        · show guard (prR .file = true) false = _
          exact guard_ok rfl
        · show guard (prR .history = true) false = _
          exact guard_ok rfl
      refine bE (spot2 hv).1 ?_
      refine bE (ne_self sv_non) ?_
      refine oF rfl ?_
      refine bE (spot2 hv).2 ?_
      refine bE (ne_self sv_non) ?_
      refine oF rfl ?_
      exact nxA trivial
  · have e1 : m_law_spot 0 ("\n" : Str) = .ok [.int 1] := by
      have := spot_step (ss := []) (by simp) (by simp) step_e (q := [("" : Str)]) ⟨fun z hz => by
        simp only [List.map_nil, List.nil_append, List.mem_cons, List.not_mem_nil, or_false, or_self] at hz
        rw [hz]; exact ⟨by decide +kernel, by decide +kernel⟩, by simp⟩ joinN_ne
      exact this
    have e2 : m_law_spot 1 ("\n" : Str) = .ok [.int 2] := by
      have hx : m_write_in ("" : Str) ((([] : List Nat).length : Nat) : Int) = .ok none := of_noneB (by decide +kernel)
      have := spot_write (l := []) (ws := []) ⟨rfl, by simp, by simp, by simp⟩ (by simp) hx (q := []) ⟨fun z hz => by
        simp only [List.map_nil, List.nil_append, List.mem_cons, List.not_mem_nil, or_false] at hz
        rcases hz with rfl | rfl <;> exact ⟨by decide +kernel, by decide +kernel⟩, by simp⟩
      exact this
    have e3 : m_law_spot 0 ("" : Str) = .ok [.str ("read" : Str)] := spot0_ok (ss := []) (by
      unfold m_read_script
      rw [decide_eq_true rfl, cond_true, bind_ok]
      show (m_Script_make (some [])).bind _ = _
      rw [script_make (by simp)]; rfl)
    rw [e1, e2, e3, bind_ok, bind_ok, bind_ok, eq_self sv_int, eq_self sv_int, eq_self sv_str]
    rfl
end Kh

set_option Elab.async false
set_option linter.all false
set_option maxRecDepth 100000
set_option maxHeartbeats 4000000
namespace Kh
open PySem PySem.Spec L2
open PySem.W (Frag)
section
variable {w : World} {K : Frag} {mg : Str → Option Value} {base : Heap}
theorem ok_law (R : Prg K mg) : FnOk PR w K mg base CX0 9 R.f_law R.d_law P_law (toSp K spLaw) := by
  refine fn_law false R.F_law sc_law (fun h => nomatch h) (fun ds M P E ⟨a, _, q, _⟩ => by rw [q]; rfl) fun cdv A outer s H hr ds M Pd PE h => ?_
  obtain ⟨a_script, hlen, rfl, rfl, hp⟩ := h
  have hu := hr.units
  have h : (m_law a_script).Out (fun r => Pd (.bl r) []) (fun _ => False) := out_mono (law_ok a_script hlen) (fun r e => by rw [show r = true from e]; exact hp) (fun _ h => h)
  refine WS.ends ?_
  refine ws_forT <| ei_rng1 R.n_range <| ex_int <| ⟨(2 : Int), rfl, by decide, forT Dat.int (xs := (rangeL 0 (Int.toNat (2 : Int)))) (fun (s1 : Unit) τ M' => ∃ d1 d2 d3 d4 d5 d6 d7 d8 d9 d10, [some (.scr a_script), d1, d2, d3, d4, d5, d6, d7, d8, d9, d10] = τ ∧ [] = M') (ob h) ⟨_, _, _, _, _, _, _, _, _, _, rfl, rfl⟩ (fun _ _ _ _ => trivial) ?g88 ?g89⟩
  case g88 =>
    rintro x2 s1 _ _ N ⟨d1, d2, d3, d4, d5, d6, d7, d8, d9, d10, rfl, rfl⟩ h hrt3
    refine gx_name  <| ?_
    refine ws_set <| ex_callF (ok_law_spring R) (hr.mono (by decide)) R.m_law_spring R.F_law_spring R.b_law_spring <| ea_cons <| ex_var ⟨rfl, rfl⟩ <| ea_cons <| ex_var ⟨rfl, rfl⟩ <| ea_nil <| ⟨a_script, x2, rfl, outG (ob h) (fun z6 h => fun q7 => (UpP.mk (?_))) (fun _ h => dX [] h)⟩
    refine ws_set <| ex_callA (ok_law_steps R) (hr.mono (by decide)) R.m_law_steps R.F_law_steps R.b_law_steps <| ea_cons <| ex_var ⟨rfl, rfl⟩ <| ea_nil <| apC [] ⟨_, z6, rfl, rfl, outC1 (ob h) (fun z8 h => ?_) (fun _ h => h)⟩
    refine ws_if <| et_not <| et_val <| ex_callA (ok_law_all_told R) (hr.mono (by decide)) R.m_law_all_told R.F_law_all_told R.b_law_all_told <| ea_cons <| ex_var ⟨rfl, rfl⟩ <| ea_cons <| ex_int <| ea_cons <| ex_var ⟨rfl, rfl⟩ <| ea_cons <| ex_int <| ea_cons <| ex_callF (ok_law_no_steps R) (hr.mono (by decide)) R.m_law_no_steps R.F_law_no_steps R.b_law_no_steps <| ea_cons <| ex_ix <| ex_var ⟨rfl, rfl⟩ <| ex_int <| r_ix Dat.str (xs := z8.1) (ob h) fun z9 h => ea_nil <| ⟨z9, rfl, outU (ob h) (fun z10 h => ea_nil <| apC [] ⟨_, z8.2, (0 : Int), z8.1, (0 : Int), z10, rfl, rfl, outC1 (ob h) (fun z11 h => ⟨_, rfl, cifN h (fun h => ?g85) (fun h => ?g12)⟩) (fun _ h => h)⟩) (fun _ h => dX [_] h)⟩
    case g12 =>
      exact ws_ret <| ex_bl <| (dN [_] (hrt3 _ h))
    case g85 =>
      refine ws_nil ?_
      refine ws_if <| et_w <| ew_or <| et_cmp <| ex_callF (ok_law_spot R) (hr.mono (by decide)) R.m_law_spot R.F_law_spot R.b_law_spot <| ea_cons <| ex_int <| ea_cons <| ex_join <| ex_str <| ⟨.str, ea_cons <| ex_var ⟨rfl, rfl⟩ <| ea_nil <| r_joinS (xs := z8.1) (ob h) fun z13 h => ea_nil <| ⟨(0 : Int), z13, rfl, outU (ob h) (fun z14 h => ex_lst <| ea_cons <| ex_asA <| ex_str <| ⟨anyD (clR R) (Any.str ("read" : Str)), (by first | rfl | (simp only [anyD, anyDL, anyDL_map, List.map_map]; done) | (simp only [anyD, anyDL, anyDL_map, List.map_map]; rfl) | (simp only [anyD, anyDL, anyDL_map, List.map_map, stepA_comp, stepA_D]; rfl) | (simp only [anyD, anyDL, anyDL_map, List.map_map, stepA_comp, stepA_D]; done)), ea_nil ⟨ln, r_neAL (xs := z14) (ys := ([(Any.str ("read" : Str))] : List Any)) hu (ob h) fun z15 h => ⟨_, rfl, cif h (fun h => ⟨fun _ => ?g16, fun z => nomatch z⟩) (fun h => ew_or1 <| et_cmp <| ex_callF (ok_law_spot R) (hr.mono (by decide)) R.m_law_spot R.F_law_spot R.b_law_spot <| ea_cons <| ex_int <| ea_cons <| ex_bin <| ex_join <| ex_str <| ⟨.str, ea_cons <| ex_var ⟨rfl, rfl⟩ <| ea_nil <| r_joinS (xs := z8.1) (ob h) fun z17 h => ex_str <| r_cat (ob h) fun z18 h => ea_nil <| ⟨(0 : Int), z18, rfl, outU (ob h) (fun z19 h => ex_lst <| ea_cons <| ex_asA <| ex_bin <| ex_callB R.n_len PyProof.Rows.Boot.«len» <| ea_cons <| ex_var ⟨rfl, rfl⟩ <| ea_nil <| c_lenT Dat.str (xs := z8.1) <| ex_int <| o_add <| ⟨anyD (clR R) (Any.int ((z8.1.length : Int) + (1 : Int))), (by first | rfl | (simp only [anyD, anyDL, anyDL_map, List.map_map]; done) | (simp only [anyD, anyDL, anyDL_map, List.map_map]; rfl) | (simp only [anyD, anyDL, anyDL_map, List.map_map, stepA_comp, stepA_D]; rfl) | (simp only [anyD, anyDL, anyDL_map, List.map_map, stepA_comp, stepA_D]; done)), ea_nil ⟨ln, r_neAL (xs := z19) (ys := ([(Any.int ((z8.1.length : Int) + (1 : Int)))] : List Any)) hu (ob h) fun z20 h => ⟨_, rfl, cif h (fun h => ?g21) (fun h => ?g84)⟩⟩⟩) (fun _ h => dX [_] h)⟩⟩)⟩⟩⟩) (fun _ h => dX [_] h)⟩⟩
      case g16 =>
        exact ws_ret <| ex_bl <| (dN [_] (hrt3 _ h))
      case g21 =>
        exact ws_ret <| ex_bl <| (dN [_] (hrt3 _ h))
      case g84 =>
        refine ws_nil ?_
        refine ws_set <| ex_callA (ok_law_cells R) (hr.mono (by decide)) R.m_law_cells R.F_law_cells R.b_law_cells <| ea_cons <| ex_var ⟨rfl, rfl⟩ <| ea_cons <| ex_callA (ok_law_sip R) (hr.mono (by decide)) R.m_law_sip R.F_law_sip R.b_law_sip <| ea_cons <| ex_var ⟨rfl, rfl⟩ <| ea_cons <| ex_int <| ea_nil <| apC [] ⟨_, z11.2, (13 : Int), rfl, rfl, outC1 (ob h) (fun z22 h => ea_nil <| apC [] ⟨_, z22.2, z22.1, rfl, rfl, outC1 (ob h) (fun z23 h => ?_) (fun _ h => h)⟩) (fun _ h => h)⟩
        refine ws_set <| ex_callA (ok_law_writes R) (hr.mono (by decide)) R.m_law_writes R.F_law_writes R.b_law_writes <| ea_cons <| ex_var ⟨rfl, rfl⟩ <| ea_cons <| ex_callB R.n_len PyProof.Rows.Boot.«len» <| ea_cons <| ex_var ⟨rfl, rfl⟩ <| ea_nil <| r_lenS (ob h) fun z24 h => ea_cons <| ex_int <| ea_nil <| apC [] ⟨_, z23.2, z24, (6 : Int), rfl, rfl, outC1 (ob h) (fun z25 h => ?_) (fun _ h => h)⟩
        refine ws_set <| ex_bin <| ex_lst <| ea_cons <| ex_var ⟨rfl, rfl⟩ <| ea_nil ⟨ln, ex_lcT [("begin", 9), ("text", 10)] <| ei_list <| ex_var ⟨rfl, rfl⟩ <| ⟨_, rfl, compT (pairD Dat.int Dat.str) Dat.str (xs := z25.1) (ob h) trivial (fun x26 _ h s H C cl fp => gc_tup <| gcs_cons <| gc_name  <| gcs_cons <| gc_name  <| gcs_nil <| fun s H C cl fp => ef_nil ⟨fun _ s H C cl fp => ex_bin <| ex_bin <| ex_callTy R.n_str PyProof.Rows.Boot.«str» <| ea_cons <| ex_var ⟨rfl, rfl⟩ <| ea_nil <| c_strI (ob h) fun z27 h => ex_str <| r_cat (ob h) fun z28 h => ex_var ⟨rfl, rfl⟩ <| r_cat (ob h) fun z29 h => ⟨rfl, z29, rfl, h⟩, fun z => nomatch z⟩) (fun l30 h => r_catL Dat.str (xs := ([z23.1] : List Str)) (ys := l30) (ob h) fun z31 h => ?_)⟩⟩
        refine ws_if <| et_not <| et_val <| ex_callA (ok_law_all_told R) (hr.mono (by decide)) R.m_law_all_told R.F_law_all_told R.b_law_all_told <| ea_cons <| ex_var ⟨rfl, rfl⟩ <| ea_cons <| ex_int <| ea_cons <| ex_var ⟨rfl, rfl⟩ <| ea_cons <| ex_int <| ea_cons <| ex_callF (ok_law_no_writes R) (hr.mono (by decide)) R.m_law_no_writes R.F_law_no_writes R.b_law_no_writes <| ea_cons <| ex_callB R.n_len PyProof.Rows.Boot.«len» <| ea_cons <| ex_var ⟨rfl, rfl⟩ <| ea_nil <| r_lenS (ob h) fun z32 h => ea_nil <| ⟨z32, rfl, outU (ob h) (fun z33 h => ea_nil <| apC [] ⟨_, z25.2, (1 : Int), z31, (1 : Int), z33, rfl, rfl, outC1 (ob h) (fun z34 h => ⟨_, rfl, cifN h (fun h => ?g80) (fun h => ?g35)⟩) (fun _ h => h)⟩) (fun _ h => dX [_] h)⟩
        case g35 =>
          exact ws_ret <| ex_bl <| (dN [_] (hrt3 _ h))
        case g80 =>
          refine ws_nil ?_
          refine ws_forT <| ei_list <| ex_lst <| ea_cons <| ex_str <| ea_cons <| ex_str <| ea_cons <| ex_bin <| ex_var ⟨rfl, rfl⟩ <| ex_str <| r_cat (ob h) fun z36 h => ea_cons <| ex_bin <| ex_var ⟨rfl, rfl⟩ <| ex_str <| r_cat (ob h) fun z37 h => ea_cons <| ex_bin <| ex_str <| ex_var ⟨rfl, rfl⟩ <| r_cat (ob h) fun z38 h => ea_cons <| ex_str <| ea_cons <| ex_str <| ea_nil ⟨ln, ⟨_, rfl, forT Dat.str (xs := ([("A" : Str), ("a b" : Str), z36, z37, z38, ("0 a" : Str), ("1" : Str)] : List Str)) (fun (s39 : Unit) τ M' => ∃ d7 d8 d9 d10, [some (.scr a_script), some (.int x2), some (.raw (.ref q7)), some ((lstD Dat.str) z8.1), some (.str z23.1), some ((lstD (pairD Dat.int Dat.str)) z25.1), some ((lstD Dat.str) z31), d7, d8, d9, d10] = τ ∧ (q7, .lst (z34.2.map Dat.int)) :: [] = M') (ob h) ⟨_, _, _, _, rfl, rfl⟩ (fun _ _ _ _ => trivial) ?g49 ?g50⟩⟩
          case g49 =>
            rintro x40 s39 _ _ N ⟨d7, d8, d9, d10, rfl, rfl⟩ h hrt41
            refine gx_name  <| ?_
            refine ws_if <| et_cmp <| ex_callF (ok_law_spot R) (hr.mono (by decide)) R.m_law_spot R.F_law_spot R.b_law_spot <| ea_cons <| ex_int <| ea_cons <| ex_join <| ex_str <| ⟨.str, ea_cons <| ex_bin <| ex_lst <| ea_cons <| ex_var ⟨rfl, rfl⟩ <| ea_nil ⟨ln, ex_sl <| ex_var ⟨rfl, rfl⟩ <| ep_some <| ex_int <| ⟨_, rfl, ep_none <| l_lstT Dat.str (xs := z31) <| r_catL Dat.str (xs := ([x40] : List Str)) (ys := (cutD z31 (some (1 : Int)) none)) (ob h) fun z43 h => ea_nil <| r_joinS (xs := z43) (ob h) fun z44 h => ea_nil <| ⟨(1 : Int), z44, rfl, outU (ob h) (fun z45 h => ex_lst <| ea_cons <| ex_asA <| ex_int <| ⟨anyD (clR R) (Any.int (1 : Int)), (by first | rfl | (simp only [anyD, anyDL, anyDL_map, List.map_map]; done) | (simp only [anyD, anyDL, anyDL_map, List.map_map]; rfl) | (simp only [anyD, anyDL, anyDL_map, List.map_map, stepA_comp, stepA_D]; rfl) | (simp only [anyD, anyDL, anyDL_map, List.map_map, stepA_comp, stepA_D]; done)), ea_nil ⟨ln, r_neAL (xs := z45) (ys := ([(Any.int (1 : Int))] : List Any)) hu (ob h) fun z46 h => ⟨_, rfl, cif h (fun h => ?g47) (fun h => ?g48)⟩⟩⟩) (fun _ h => dX [_] h)⟩⟩⟩⟩
            case g47 =>
              exact ws_ret <| ex_bl <| (dN [_] (hrt3 _ (hrt41 _ h)))
            case g48 =>
              refine ws_nil ?_
              exact ws_nil ⟨(), ⟨_, _, _, _, rfl, rfl⟩, h⟩
          case g50 =>
            rintro s39 _ _ ⟨d7, d8, d9, d10, rfl, rfl⟩ h
            replace h := finO h
            refine ws_if <| et_w <| ew_or <| et_cmp <| ex_callF (ok_law_spot R) (hr.mono (by decide)) R.m_law_spot R.F_law_spot R.b_law_spot <| ea_cons <| ex_int <| ea_cons <| ex_join <| ex_str <| ⟨.str, ea_cons <| ex_var ⟨rfl, rfl⟩ <| ea_nil <| r_joinS (xs := z31) (ob h) fun z51 h => ea_nil <| ⟨(1 : Int), z51, rfl, outU (ob h) (fun z52 h => ex_lst <| ea_cons <| ex_asA <| ex_str <| ⟨anyD (clR R) (Any.str ("read" : Str)), (by first | rfl | (simp only [anyD, anyDL, anyDL_map, List.map_map]; done) | (simp only [anyD, anyDL, anyDL_map, List.map_map]; rfl) | (simp only [anyD, anyDL, anyDL_map, List.map_map, stepA_comp, stepA_D]; rfl) | (simp only [anyD, anyDL, anyDL_map, List.map_map, stepA_comp, stepA_D]; done)), ea_nil ⟨ln, r_neAL (xs := z52) (ys := ([(Any.str ("read" : Str))] : List Any)) hu (ob h) fun z53 h => ⟨_, rfl, cif h (fun h => ⟨fun _ => ?g54, fun z => nomatch z⟩) (fun h => ew_or1 <| et_cmp <| ex_callF (ok_law_spot R) (hr.mono (by decide)) R.m_law_spot R.F_law_spot R.b_law_spot <| ea_cons <| ex_int <| ea_cons <| ex_bin <| ex_join <| ex_str <| ⟨.str, ea_cons <| ex_var ⟨rfl, rfl⟩ <| ea_nil <| r_joinS (xs := z31) (ob h) fun z55 h => ex_str <| r_cat (ob h) fun z56 h => ea_nil <| ⟨(1 : Int), z56, rfl, outU (ob h) (fun z57 h => ex_lst <| ea_cons <| ex_asA <| ex_bin <| ex_callB R.n_len PyProof.Rows.Boot.«len» <| ea_cons <| ex_var ⟨rfl, rfl⟩ <| ea_nil <| c_lenT Dat.str (xs := z31) <| ex_int <| o_add <| ⟨anyD (clR R) (Any.int ((z31.length : Int) + (1 : Int))), (by first | rfl | (simp only [anyD, anyDL, anyDL_map, List.map_map]; done) | (simp only [anyD, anyDL, anyDL_map, List.map_map]; rfl) | (simp only [anyD, anyDL, anyDL_map, List.map_map, stepA_comp, stepA_D]; rfl) | (simp only [anyD, anyDL, anyDL_map, List.map_map, stepA_comp, stepA_D]; done)), ea_nil ⟨ln, r_neAL (xs := z57) (ys := ([(Any.int ((z31.length : Int) + (1 : Int)))] : List Any)) hu (ob h) fun z58 h => ⟨_, rfl, cif h (fun h => ?g59) (fun h => ?g79)⟩⟩⟩) (fun _ h => dX [_] h)⟩⟩)⟩⟩⟩) (fun _ h => dX [_] h)⟩⟩
            case g54 =>
              exact ws_ret <| ex_bl <| (dN [_] (hrt3 _ h))
            case g59 =>
              exact ws_ret <| ex_bl <| (dN [_] (hrt3 _ h))
            case g79 =>
              refine ws_nil ?_
              refine ws_forT <| ei_list <| ex_lst <| ea_cons <| ex_asA <| ex_non <| ⟨anyD (clR R) Any.non, (by first | rfl | (simp only [anyD, anyDL, anyDL_map, List.map_map]; done) | (simp only [anyD, anyDL, anyDL_map, List.map_map]; rfl) | (simp only [anyD, anyDL, anyDL_map, List.map_map, stepA_comp, stepA_D]; rfl) | (simp only [anyD, anyDL, anyDL_map, List.map_map, stepA_comp, stepA_D]; done)), ea_cons <| ex_asA <| ex_int <| ⟨anyD (clR R) (Any.int (0 : Int)), (by first | rfl | (simp only [anyD, anyDL, anyDL_map, List.map_map]; done) | (simp only [anyD, anyDL, anyDL_map, List.map_map]; rfl) | (simp only [anyD, anyDL, anyDL_map, List.map_map, stepA_comp, stepA_D]; rfl) | (simp only [anyD, anyDL, anyDL_map, List.map_map, stepA_comp, stepA_D]; done)), ea_cons <| ex_asA <| ex_var ⟨rfl, rfl⟩ <| ⟨anyD (clR R) (Any.lst (z8.1.map Any.str)), (by first | rfl | (simp only [anyD, anyDL, anyDL_map, List.map_map]; done) | (simp only [anyD, anyDL, anyDL_map, List.map_map]; rfl) | (simp only [anyD, anyDL, anyDL_map, List.map_map, stepA_comp, stepA_D]; rfl) | (simp only [anyD, anyDL, anyDL_map, List.map_map, stepA_comp, stepA_D]; done)), ea_cons <| ex_asA <| ex_callTy R.n_tuple PyProof.Rows.Boot.«tuple» <| ea_cons <| ex_var ⟨rfl, rfl⟩ <| ea_nil <| c_tupT Dat.str (xs := z8.1) <| ⟨anyD (clR R) (Any.tup (z8.1.map Any.str)), (by first | rfl | (simp only [anyD, anyDL, anyDL_map, List.map_map]; done) | (simp only [anyD, anyDL, anyDL_map, List.map_map]; rfl) | (simp only [anyD, anyDL, anyDL_map, List.map_map, stepA_comp, stepA_D]; rfl) | (simp only [anyD, anyDL, anyDL_map, List.map_map, stepA_comp, stepA_D]; done)), ea_cons <| ex_asA <| ex_dicA h fun q60 h => ⟨_, rfl, ea_cons <| ex_asA <| ex_bl <| ⟨anyD (clR R) (Any.bl true), (by first | rfl | (simp only [anyD, anyDL, anyDL_map, List.map_map]; done) | (simp only [anyD, anyDL, anyDL_map, List.map_map]; rfl) | (simp only [anyD, anyDL, anyDL_map, List.map_map, stepA_comp, stepA_D]; rfl) | (simp only [anyD, anyDL, anyDL_map, List.map_map, stepA_comp, stepA_D]; done)), ea_cons <| ex_tagB <| ex_make R.K_File (ok_File_init R) (hr.mono (by decide)) R.mc_File R.b_File_init .nil (fun _ => .nil) <| ea_cons <| ex_var ⟨rfl, rfl⟩ <| ea_nil <| fun q dx _ _ _ => mk_File (ob h) (fun z61 h => ⟨rfl, anyD (clR R) ((fun (z : Str) => Any.obj .file [.str z]) z61), (by first | rfl | (simp only [anyD, anyDL, anyDL_map, List.map_map]; done) | (simp only [anyD, anyDL, anyDL_map, List.map_map]; rfl) | (simp only [anyD, anyDL, anyDL_map, List.map_map, stepA_comp, stepA_D]; rfl) | (simp only [anyD, anyDL, anyDL_map, List.map_map, stepA_comp, stepA_D]; done)), fun q62 => (have h := outAll h q62; ea_cons <| ex_tagB <| ex_make R.K_History (ok_History_init R) (hr.mono (by decide)) R.mc_History R.b_History_init .nil (fun _ => .nil) <| ea_cons <| ex_make R.K_File (ok_File_init R) (hr.mono (by decide)) R.mc_File R.b_File_init .nil (fun _ => .nil) <| ea_cons <| ex_var ⟨rfl, rfl⟩ <| ea_nil <| fun q dx _ _ _ => mk_File (ob h) (fun z63 h => ea_cons <| ex_var ⟨rfl, rfl⟩ <| ea_nil <| fun q dx _ _ _ => mk_History (ob h) (fun z64 h => ⟨rfl, anyD (clR R) ((fun (p : Str × List (Int × Str)) => Any.obj .history [.obj .file [.str p.1], .lst (p.2.map fun (w : Int × Str) => .tup [.int w.1, .str w.2])]) z64), (by first | rfl | (simp only [anyD, anyDL, anyDL_map, List.map_map]; done) | (simp only [anyD, anyDL, anyDL_map, List.map_map]; rfl) | (simp only [anyD, anyDL, anyDL_map, List.map_map, stepA_comp, stepA_D]; rfl) | (simp only [anyD, anyDL, anyDL_map, List.map_map, stepA_comp, stepA_D]; done)), fun q65 => (have h := outAll h q65; ea_nil ⟨ln, ⟨_, rfl, forT (anyD (clR R)) (xs := ([Any.non, (Any.int (0 : Int)), (Any.lst (z8.1.map Any.str)), (Any.tup (z8.1.map Any.str)), (Any.tag q60 .dic), (Any.bl true), (Any.tag q62 ((fun (z : Str) => Any.obj .file [.str z]) z61)), (Any.tag q65 ((fun (p : Str × List (Int × Str)) => Any.obj .history [.obj .file [.str p.1], .lst (p.2.map fun (w : Int × Str) => .tup [.int w.1, .str w.2])]) z64))] : List Any)) (fun (s66 : Unit) τ M' => ∃ d7 d8 d9 d10, [some (.scr a_script), some (.int x2), some (.raw (.ref q7)), some ((lstD Dat.str) z8.1), some (.str z23.1), some ((lstD (pairD Dat.int Dat.str)) z25.1), some ((lstD Dat.str) z31), d7, d8, d9, d10] = τ ∧ (q7, .lst (z34.2.map Dat.int)) :: [] = M') (ob h) ⟨_, _, _, _, rfl, rfl⟩ (fun _ _ _ _ => trivial) ?g77 ?g78⟩⟩)⟩) (fun _ h => dX [_, _] h)) (fun _ h => dX [_, _] h))⟩) (fun _ h => dX [_, _] h)⟩⟩⟩⟩⟩⟩
              case g77 =>
                rintro x67 s66 _ _ N ⟨d7, d8, d9, d10, rfl, rfl⟩ h hrt68
                refine gx_name  <| ?_
                refine ws_if <| et_w <| ew_or <| et_cmp <| ex_callF (ok_law_spot__v2 R) (hr.mono (by decide)) R.m_law_spot R.F_law_spot R.b_law_spot <| ea_cons <| ex_int <| ea_cons <| ex_asA <| ex_var ⟨rfl, rfl⟩ <| ⟨_, rfl, ea_nil <| ⟨(0 : Int), x67, rfl, outU (ob h) (fun z70 h => ex_lst <| ea_cons <| ex_asA <| ex_non <| ⟨anyD (clR R) Any.non, (by first | rfl | (simp only [anyD, anyDL, anyDL_map, List.map_map]; done) | (simp only [anyD, anyDL, anyDL_map, List.map_map]; rfl) | (simp only [anyD, anyDL, anyDL_map, List.map_map, stepA_comp, stepA_D]; rfl) | (simp only [anyD, anyDL, anyDL_map, List.map_map, stepA_comp, stepA_D]; done)), ea_nil ⟨ln, r_neAL (xs := z70) (ys := ([Any.non] : List Any)) hu (ob h) fun z71 h => ⟨_, rfl, cif h (fun h => ⟨fun _ => ?g72, fun z => nomatch z⟩) (fun h => ew_or1 <| et_cmp <| ex_callF (ok_law_spot__v2 R) (hr.mono (by decide)) R.m_law_spot R.F_law_spot R.b_law_spot <| ea_cons <| ex_int <| ea_cons <| ex_asA <| ex_var ⟨rfl, rfl⟩ <| ⟨_, rfl, ea_nil <| ⟨(1 : Int), x67, rfl, outU (ob h) (fun z73 h => ex_lst <| ea_cons <| ex_asA <| ex_non <| ⟨anyD (clR R) Any.non, (by first | rfl | (simp only [anyD, anyDL, anyDL_map, List.map_map]; done) | (simp only [anyD, anyDL, anyDL_map, List.map_map]; rfl) | (simp only [anyD, anyDL, anyDL_map, List.map_map, stepA_comp, stepA_D]; rfl) | (simp only [anyD, anyDL, anyDL_map, List.map_map, stepA_comp, stepA_D]; done)), ea_nil ⟨ln, r_neAL (xs := z73) (ys := ([Any.non] : List Any)) hu (ob h) fun z74 h => ⟨_, rfl, cif h (fun h => ?g75) (fun h => ?g76)⟩⟩⟩) (fun _ h => dX [_] h)⟩⟩)⟩⟩⟩) (fun _ h => dX [_] h)⟩⟩
                case g72 =>
                  exact ws_ret <| ex_bl <| (dN [_] (hrt3 _ (hrt68 _ h)))
                case g75 =>
                  exact ws_ret <| ex_bl <| (dN [_] (hrt3 _ (hrt68 _ h)))
                case g76 =>
                  refine ws_nil ?_
                  exact ws_nil ⟨(), ⟨_, _, _, _, rfl, rfl⟩, h⟩
              case g78 =>
                rintro s66 _ _ ⟨d7, d8, d9, d10, rfl, rfl⟩ h
                replace h := finO h
                refine ws_drop (A := _) (B := [_]) (List.perm_append_comm (l₁ := [_])) ?_
                exact ws_nil ⟨(), ⟨_, _, _, _, _, _, _, _, _, _, rfl, rfl⟩, h⟩
  case g89 =>
    rintro s1 _ _ ⟨d1, d2, d3, d4, d5, d6, d7, d8, d9, d10, rfl, rfl⟩ h
    replace h := finO h
    exact ws_ret <| exJQ Dat.bl (ob h) (fun _ h => exA h (fun _ h => ex_cmp <| ex_callF (ok_law_spot R) (hr.mono (by decide)) R.m_law_spot R.F_law_spot R.b_law_spot <| ea_cons <| ex_int <| ea_cons <| ex_str <| ea_nil <| ⟨(0 : Int), ("\n" : Str), rfl, outU (ob h) (fun z90 h => ex_lst <| ea_cons <| ex_asA <| ex_int <| ⟨anyD (clR R) (Any.int (1 : Int)), (by first | rfl | (simp only [anyD, anyDL, anyDL_map, List.map_map]; done) | (simp only [anyD, anyDL, anyDL_map, List.map_map]; rfl) | (simp only [anyD, anyDL, anyDL_map, List.map_map, stepA_comp, stepA_D]; rfl) | (simp only [anyD, anyDL, anyDL_map, List.map_map, stepA_comp, stepA_D]; done)), ea_nil ⟨ln, r_eqAL (xs := z90) (ys := ([(Any.int (1 : Int))] : List Any)) hu (ob h) fun z91 h => ⟨rfl, z91, rfl, h⟩⟩⟩) (fun _ h => dX [] h)⟩) (fun h => exA h (fun _ h => ex_cmp <| ex_callF (ok_law_spot R) (hr.mono (by decide)) R.m_law_spot R.F_law_spot R.b_law_spot <| ea_cons <| ex_int <| ea_cons <| ex_str <| ea_nil <| ⟨(1 : Int), ("\n" : Str), rfl, outU (ob h) (fun z92 h => ex_lst <| ea_cons <| ex_asA <| ex_int <| ⟨anyD (clR R) (Any.int (2 : Int)), (by first | rfl | (simp only [anyD, anyDL, anyDL_map, List.map_map]; done) | (simp only [anyD, anyDL, anyDL_map, List.map_map]; rfl) | (simp only [anyD, anyDL, anyDL_map, List.map_map, stepA_comp, stepA_D]; rfl) | (simp only [anyD, anyDL, anyDL_map, List.map_map, stepA_comp, stepA_D]; done)), ea_nil ⟨ln, r_eqAL (xs := z92) (ys := ([(Any.int (2 : Int))] : List Any)) hu (ob h) fun z93 h => ⟨rfl, z93, rfl, h⟩⟩⟩) (fun _ h => dX [] h)⟩) (fun h => ex_and1 <| ex_cmp <| ex_callF (ok_law_spot R) (hr.mono (by decide)) R.m_law_spot R.F_law_spot R.b_law_spot <| ea_cons <| ex_int <| ea_cons <| ex_str <| ea_nil <| ⟨(0 : Int), ("" : Str), rfl, outU (ob h) (fun z94 h => ex_lst <| ea_cons <| ex_asA <| ex_str <| ⟨anyD (clR R) (Any.str ("read" : Str)), (by first | rfl | (simp only [anyD, anyDL, anyDL_map, List.map_map]; done) | (simp only [anyD, anyDL, anyDL_map, List.map_map]; rfl) | (simp only [anyD, anyDL, anyDL_map, List.map_map, stepA_comp, stepA_D]; rfl) | (simp only [anyD, anyDL, anyDL_map, List.map_map, stepA_comp, stepA_D]; done)), ea_nil ⟨ln, r_eqAL (xs := z94) (ys := ([(Any.str ("read" : Str))] : List Any)) hu (ob h) fun z95 h => ⟨rfl, z95, rfl, h⟩⟩⟩) (fun _ h => dX [] h)⟩))) fun z96 h => (dN [] h)
end
end Kh

set_option Elab.async false
set_option linter.all false
set_option maxRecDepth 100000
set_option pp.maxSteps 60
set_option maxHeartbeats 2000000
namespace Kh
open PySem PySem.Spec L2
open PySem.W (Frag ksFn)
theorem all_mk {w : World} {K : Frag} {h : Heap} {mg : Str → Option Value} {fa : Addr} (X : K.In h) (G : h.Ns mainGlobals mg) (hfa : mg "law" = some (.ref fa))
    {tg_SIGNS : Tok} {tg_DIGITS : Tok} {C_File : Addr} {C_Step : Addr} {C_Full : Addr} {C_Keep : Addr} {C_Lean : Addr} {C_Dig : Addr} {C_Script : Addr} {C_History : Addr} {f_is_whole : Addr} {od_is_whole : Option Addr} {an_is_whole : Option Addr} {sl_is_whole : Array (Option Value)} {oc_is_whole : Value} {kV_is_whole : Value} {dc_is_whole : Value} {pm_is_whole : Value} {cd_is_whole : Value} {ct_is_whole : Value} {f_check_least : Addr} {od_check_least : Option Addr} {an_check_least : Option Addr} {sl_check_least : Array (Option Value)} {oc_check_least : Value} {kV_check_least : Value} {dc_check_least : Value} {pm_check_least : Value} {cd_check_least : Value} {ct_check_least : Value} {f_are_cells : Addr} {od_are_cells : Option Addr} {an_are_cells : Option Addr} {sl_are_cells : Array (Option Value)} {oc_are_cells : Value} {kV_are_cells : Value} {dc_are_cells : Value} {pm_are_cells : Value} {cd_are_cells : Value} {ct_are_cells : Value} {f_is_content : Addr} {od_is_content : Option Addr} {an_is_content : Option Addr} {sl_is_content : Array (Option Value)} {oc_is_content : Value} {kV_is_content : Value} {dc_is_content : Value} {pm_is_content : Value} {cd_is_content : Value} {ct_is_content : Value} {f_check_file : Addr} {od_check_file : Option Addr} {an_check_file : Option Addr} {sl_check_file : Array (Option Value)} {oc_check_file : Value} {kV_check_file : Value} {dc_check_file : Value} {pm_check_file : Value} {cd_check_file : Value} {ct_check_file : Value} {f_are_steps : Addr} {od_are_steps : Option Addr} {an_are_steps : Option Addr} {sl_are_steps : Array (Option Value)} {oc_are_steps : Value} {kV_are_steps : Value} {dc_are_steps : Value} {pm_are_steps : Value} {cd_are_steps : Value} {ct_are_steps : Value} {f_is_write : Addr} {od_is_write : Option Addr} {an_is_write : Option Addr} {sl_is_write : Array (Option Value)} {oc_is_write : Value} {kV_is_write : Value} {dc_is_write : Value} {pm_is_write : Value} {cd_is_write : Value} {ct_is_write : Value} {f_check_write : Addr} {od_check_write : Option Addr} {an_check_write : Option Addr} {sl_check_write : Array (Option Value)} {oc_check_write : Value} {kV_check_write : Value} {dc_check_write : Value} {pm_check_write : Value} {cd_check_write : Value} {ct_check_write : Value} {f_number_in : Addr} {od_number_in : Option Addr} {an_number_in : Option Addr} {sl_number_in : Array (Option Value)} {oc_number_in : Value} {kV_number_in : Value} {dc_number_in : Value} {pm_number_in : Value} {cd_number_in : Value} {ct_number_in : Value} {f_step_in : Addr} {od_step_in : Option Addr} {an_step_in : Option Addr} {sl_step_in : Array (Option Value)} {oc_step_in : Value} {kV_step_in : Value} {dc_step_in : Value} {pm_step_in : Value} {cd_step_in : Value} {ct_step_in : Value} {f_read_script : Addr} {od_read_script : Option Addr} {an_read_script : Option Addr} {sl_read_script : Array (Option Value)} {oc_read_script : Value} {kV_read_script : Value} {dc_read_script : Value} {pm_read_script : Value} {cd_read_script : Value} {ct_read_script : Value} {f_write_in : Addr} {od_write_in : Option Addr} {an_write_in : Option Addr} {sl_write_in : Array (Option Value)} {oc_write_in : Value} {kV_write_in : Value} {dc_write_in : Value} {pm_write_in : Value} {cd_write_in : Value} {ct_write_in : Value} {f_read_history : Addr} {od_read_history : Option Addr} {an_read_history : Option Addr} {sl_read_history : Array (Option Value)} {oc_read_history : Value} {kV_read_history : Value} {dc_read_history : Value} {pm_read_history : Value} {cd_read_history : Value} {ct_read_history : Value} {f_law_spring : Addr} {od_law_spring : Option Addr} {an_law_spring : Option Addr} {sl_law_spring : Array (Option Value)} {oc_law_spring : Value} {kV_law_spring : Value} {dc_law_spring : Value} {pm_law_spring : Value} {cd_law_spring : Value} {ct_law_spring : Value} {f_law_sip : Addr} {od_law_sip : Option Addr} {an_law_sip : Option Addr} {sl_law_sip : Array (Option Value)} {oc_law_sip : Value} {kV_law_sip : Value} {dc_law_sip : Value} {pm_law_sip : Value} {cd_law_sip : Value} {ct_law_sip : Value} {f_law_cells : Addr} {od_law_cells : Option Addr} {an_law_cells : Option Addr} {sl_law_cells : Array (Option Value)} {oc_law_cells : Value} {kV_law_cells : Value} {dc_law_cells : Value} {pm_law_cells : Value} {cd_law_cells : Value} {ct_law_cells : Value} {f_law_text : Addr} {od_law_text : Option Addr} {an_law_text : Option Addr} {sl_law_text : Array (Option Value)} {oc_law_text : Value} {kV_law_text : Value} {dc_law_text : Value} {pm_law_text : Value} {cd_law_text : Value} {ct_law_text : Value} {f_law_writes : Addr} {od_law_writes : Option Addr} {an_law_writes : Option Addr} {sl_law_writes : Array (Option Value)} {oc_law_writes : Value} {kV_law_writes : Value} {dc_law_writes : Value} {pm_law_writes : Value} {cd_law_writes : Value} {ct_law_writes : Value} {f_law_spot : Addr} {od_law_spot : Option Addr} {an_law_spot : Option Addr} {sl_law_spot : Array (Option Value)} {oc_law_spot : Value} {kV_law_spot : Value} {dc_law_spot : Value} {pm_law_spot : Value} {cd_law_spot : Value} {ct_law_spot : Value} {f_law_steps : Addr} {od_law_steps : Option Addr} {an_law_steps : Option Addr} {sl_law_steps : Array (Option Value)} {oc_law_steps : Value} {kV_law_steps : Value} {dc_law_steps : Value} {pm_law_steps : Value} {cd_law_steps : Value} {ct_law_steps : Value} {f_law_no_steps : Addr} {od_law_no_steps : Option Addr} {an_law_no_steps : Option Addr} {sl_law_no_steps : Array (Option Value)} {oc_law_no_steps : Value} {kV_law_no_steps : Value} {dc_law_no_steps : Value} {pm_law_no_steps : Value} {cd_law_no_steps : Value} {ct_law_no_steps : Value} {f_law_no_writes : Addr} {od_law_no_writes : Option Addr} {an_law_no_writes : Option Addr} {sl_law_no_writes : Array (Option Value)} {oc_law_no_writes : Value} {kV_law_no_writes : Value} {dc_law_no_writes : Value} {pm_law_no_writes : Value} {cd_law_no_writes : Value} {ct_law_no_writes : Value} {f_law_all_told : Addr} {od_law_all_told : Option Addr} {an_law_all_told : Option Addr} {sl_law_all_told : Array (Option Value)} {oc_law_all_told : Value} {kV_law_all_told : Value} {dc_law_all_told : Value} {pm_law_all_told : Value} {cd_law_all_told : Value} {ct_law_all_told : Value} {f_law : Addr} {od_law : Option Addr} {an_law : Option Addr} {sl_law : Array (Option Value)} {oc_law : Value} {kV_law : Value} {dc_law : Value} {pm_law : Value} {cd_law : Value} {ct_law : Value} {f_File_init : Addr} {od_File_init : Option Addr} {an_File_init : Option Addr} {sl_File_init : Array (Option Value)} {oc_File_init : Value} {kV_File_init : Value} {dc_File_init : Value} {pm_File_init : Value} {cd_File_init : Value} {ct_File_init : Value} {T_File_init : Addr} {ocT_File_init : Value} {odT_File_init : Option Addr} {nT_File_init : Nat} {slT_File_init : Array (Option Value)} {tk0_File_init : Tok} {f_File_len : Addr} {od_File_len : Option Addr} {an_File_len : Option Addr} {sl_File_len : Array (Option Value)} {oc_File_len : Value} {kV_File_len : Value} {dc_File_len : Value} {pm_File_len : Value} {cd_File_len : Value} {ct_File_len : Value} {f_Keep_init : Addr} {od_Keep_init : Option Addr} {an_Keep_init : Option Addr} {sl_Keep_init : Array (Option Value)} {oc_Keep_init : Value} {kV_Keep_init : Value} {dc_Keep_init : Value} {pm_Keep_init : Value} {cd_Keep_init : Value} {ct_Keep_init : Value} {f_Lean_init : Addr} {od_Lean_init : Option Addr} {an_Lean_init : Option Addr} {sl_Lean_init : Array (Option Value)} {oc_Lean_init : Value} {kV_Lean_init : Value} {dc_Lean_init : Value} {pm_Lean_init : Value} {cd_Lean_init : Value} {ct_Lean_init : Value} {f_Dig_init : Addr} {od_Dig_init : Option Addr} {an_Dig_init : Option Addr} {sl_Dig_init : Array (Option Value)} {oc_Dig_init : Value} {kV_Dig_init : Value} {dc_Dig_init : Value} {pm_Dig_init : Value} {cd_Dig_init : Value} {ct_Dig_init : Value} {f_Script_init : Addr} {od_Script_init : Option Addr} {an_Script_init : Option Addr} {sl_Script_init : Array (Option Value)} {oc_Script_init : Value} {kV_Script_init : Value} {dc_Script_init : Value} {pm_Script_init : Value} {cd_Script_init : Value} {ct_Script_init : Value} {T_Script_init : Addr} {ocT_Script_init : Value} {odT_Script_init : Option Addr} {nT_Script_init : Nat} {slT_Script_init : Array (Option Value)} {f_History_init : Addr} {od_History_init : Option Addr} {an_History_init : Option Addr} {sl_History_init : Array (Option Value)} {oc_History_init : Value} {kV_History_init : Value} {dc_History_init : Value} {pm_History_init : Value} {cd_History_init : Value} {ct_History_init : Value} {T_History_init : Addr} {ocT_History_init : Value} {odT_History_init : Option Addr} {nT_History_init : Nat} {slT_History_init : Array (Option Value)} {f_History_iadd : Addr} {od_History_iadd : Option Addr} {an_History_iadd : Option Addr} {sl_History_iadd : Array (Option Value)} {oc_History_iadd : Value} {kV_History_iadd : Value} {dc_History_iadd : Value} {pm_History_iadd : Value} {cd_History_iadd : Value} {ct_History_iadd : Value} {C_InvalidFile : Addr} {C_HoleError : Addr} {nm_InvalidFile : Str} {q_InvalidFile : Str} {NN_InvalidFile : Addr} {I_InvalidFile : Addr} {cda_InvalidFile : Addr} {cc_InvalidFile : Addr} {bs_InvalidFile : List Value} {sn_InvalidFile : List Str} {sub_InvalidFile : List Value} {ab_InvalidFile : Bool} {col_InvalidFile : Option Bool} {dd_InvalidFile : Option Addr} {m0_InvalidFile : Option Value} {m1_InvalidFile : Option Value} {m2_InvalidFile : Option Value} {m3_InvalidFile : Option Value} {m5_InvalidFile : Option Value} {od_InvalidFile : Option Addr} {an_InvalidFile : Option Addr} {cdd_InvalidFile : Option Addr} {cld_InvalidFile : Option Addr} {sl_InvalidFile : Array (Option Value)} {ccs_InvalidFile : Array (Option Value)} {csl_InvalidFile : Array (Option Value)} {oc_InvalidFile : Value} {ocT_InvalidFile : Value} {kV_InvalidFile : Value} {dc_InvalidFile : Value} {pm_InvalidFile : Value} {ct_InvalidFile : Value} {ccl_InvalidFile : Value} {cl_InvalidFile : Value} {T_InvalidFile : Addr} {odT_InvalidFile : Option Addr} {nT_InvalidFile : Nat} {slT_InvalidFile : Array (Option Value)} {vs_InvalidFile : Array Value} {file_InvalidFile : Str} {tf_InvalidFile : Tok} {C_InvalidNumber : Addr} {nm_InvalidNumber : Str} {q_InvalidNumber : Str} {NN_InvalidNumber : Addr} {I_InvalidNumber : Addr} {cda_InvalidNumber : Addr} {cc_InvalidNumber : Addr} {bs_InvalidNumber : List Value} {sn_InvalidNumber : List Str} {sub_InvalidNumber : List Value} {ab_InvalidNumber : Bool} {col_InvalidNumber : Option Bool} {dd_InvalidNumber : Option Addr} {m0_InvalidNumber : Option Value} {m1_InvalidNumber : Option Value} {m2_InvalidNumber : Option Value} {m3_InvalidNumber : Option Value} {m5_InvalidNumber : Option Value} {od_InvalidNumber : Option Addr} {an_InvalidNumber : Option Addr} {cdd_InvalidNumber : Option Addr} {cld_InvalidNumber : Option Addr} {sl_InvalidNumber : Array (Option Value)} {ccs_InvalidNumber : Array (Option Value)} {csl_InvalidNumber : Array (Option Value)} {oc_InvalidNumber : Value} {ocT_InvalidNumber : Value} {kV_InvalidNumber : Value} {dc_InvalidNumber : Value} {pm_InvalidNumber : Value} {ct_InvalidNumber : Value} {ccl_InvalidNumber : Value} {cl_InvalidNumber : Value} {T_InvalidNumber : Addr} {odT_InvalidNumber : Option Addr} {nT_InvalidNumber : Nat} {slT_InvalidNumber : Array (Option Value)} {vs_InvalidNumber : Array Value} {file_InvalidNumber : Str} {tf_InvalidNumber : Tok} {C_InvalidScript : Addr} {C_InvalidList : Addr} {C_InvalidWrite : Addr} {nm_InvalidWrite : Str} {q_InvalidWrite : Str} {NN_InvalidWrite : Addr} {I_InvalidWrite : Addr} {cda_InvalidWrite : Addr} {cc_InvalidWrite : Addr} {bs_InvalidWrite : List Value} {sn_InvalidWrite : List Str} {sub_InvalidWrite : List Value} {ab_InvalidWrite : Bool} {col_InvalidWrite : Option Bool} {dd_InvalidWrite : Option Addr} {m0_InvalidWrite : Option Value} {m1_InvalidWrite : Option Value} {m2_InvalidWrite : Option Value} {m3_InvalidWrite : Option Value} {m5_InvalidWrite : Option Value} {od_InvalidWrite : Option Addr} {an_InvalidWrite : Option Addr} {cdd_InvalidWrite : Option Addr} {cld_InvalidWrite : Option Addr} {sl_InvalidWrite : Array (Option Value)} {ccs_InvalidWrite : Array (Option Value)} {csl_InvalidWrite : Array (Option Value)} {oc_InvalidWrite : Value} {ocT_InvalidWrite : Value} {kV_InvalidWrite : Value} {dc_InvalidWrite : Value} {pm_InvalidWrite : Value} {ct_InvalidWrite : Value} {ccl_InvalidWrite : Value} {cl_InvalidWrite : Value} {T_InvalidWrite : Addr} {odT_InvalidWrite : Option Addr} {nT_InvalidWrite : Nat} {slT_InvalidWrite : Array (Option Value)} {vs_InvalidWrite : Array Value} {file_InvalidWrite : Str} {tf_InvalidWrite : Tok} {C_InvalidText : Addr} {nm_InvalidText : Str} {q_InvalidText : Str} {NN_InvalidText : Addr} {I_InvalidText : Addr} {cda_InvalidText : Addr} {cc_InvalidText : Addr} {bs_InvalidText : List Value} {sn_InvalidText : List Str} {sub_InvalidText : List Value} {ab_InvalidText : Bool} {col_InvalidText : Option Bool} {dd_InvalidText : Option Addr} {m0_InvalidText : Option Value} {m1_InvalidText : Option Value} {m2_InvalidText : Option Value} {m3_InvalidText : Option Value} {m5_InvalidText : Option Value} {od_InvalidText : Option Addr} {an_InvalidText : Option Addr} {cdd_InvalidText : Option Addr} {cld_InvalidText : Option Addr} {sl_InvalidText : Array (Option Value)} {ccs_InvalidText : Array (Option Value)} {csl_InvalidText : Array (Option Value)} {oc_InvalidText : Value} {ocT_InvalidText : Value} {kV_InvalidText : Value} {dc_InvalidText : Value} {pm_InvalidText : Value} {ct_InvalidText : Value} {ccl_InvalidText : Value} {cl_InvalidText : Value} {T_InvalidText : Addr} {odT_InvalidText : Option Addr} {nT_InvalidText : Nat} {slT_InvalidText : Array (Option Value)} {vs_InvalidText : Array Value} {file_InvalidText : Str} {tf_InvalidText : Tok}
    (z_bool : PySem.W.nsIn K mainGlobals "bool" = some none)
    (z_enumerate : PySem.W.nsIn K mainGlobals "enumerate" = some none)
    (z_int : PySem.W.nsIn K mainGlobals "int" = some none)
    (z_isinstance : PySem.W.nsIn K mainGlobals "isinstance" = some none)
    (z_len : PySem.W.nsIn K mainGlobals "len" = some none)
    (z_list : PySem.W.nsIn K mainGlobals "list" = some none)
    (z_min : PySem.W.nsIn K mainGlobals "min" = some none)
    (z_range : PySem.W.nsIn K mainGlobals "range" = some none)
    (z_str : PySem.W.nsIn K mainGlobals "str" = some none)
    (z_super : PySem.W.nsIn K mainGlobals "super" = some none)
    (z_tuple : PySem.W.nsIn K mainGlobals "tuple" = some none)
    (g_SIGNS : PySem.W.nsIn K mainGlobals "SIGNS" = some (some (.str "abcdefghijklmnopqrstuvwxyz" tg_SIGNS)))
    (g_DIGITS : PySem.W.nsIn K mainGlobals "DIGITS" = some (some (.str "0123456789" tg_DIGITS)))
    (ac_File : PySem.W.nsIn K mainGlobals "File" = some (some (.ref C_File)))
    (ac_Step : PySem.W.nsIn K mainGlobals "Step" = some (some (.ref C_Step)))
    (ac_Full : PySem.W.nsIn K mainGlobals "Full" = some (some (.ref C_Full)))
    (ac_Keep : PySem.W.nsIn K mainGlobals "Keep" = some (some (.ref C_Keep)))
    (ac_Lean : PySem.W.nsIn K mainGlobals "Lean" = some (some (.ref C_Lean)))
    (ac_Dig : PySem.W.nsIn K mainGlobals "Dig" = some (some (.ref C_Dig)))
    (ac_Script : PySem.W.nsIn K mainGlobals "Script" = some (some (.ref C_Script)))
    (ac_History : PySem.W.nsIn K mainGlobals "History" = some (some (.ref C_History)))
    (a_is_whole : PySem.W.nsIn K mainGlobals "is_whole" = some (some (.ref f_is_whole)))
    (l_is_whole : K.lookup f_is_whole = some ⟨oc_is_whole, od_is_whole, .func (PySem.W.fnOf "is_whole" "is_whole" (defArgs s_is_whole) (defBody s_is_whole) (defScope s_is_whole) .none kV_is_whole dc_is_whole pm_is_whole an_is_whole cd_is_whole ct_is_whole), sl_is_whole⟩)
    (c_is_whole : PySem.W.codeIn K cd_is_whole "is_whole" = true)
    (k_is_whole : PySem.W.keepIn K (.ref f_is_whole) = true)
    (a_check_least : PySem.W.nsIn K mainGlobals "check_least" = some (some (.ref f_check_least)))
    (l_check_least : K.lookup f_check_least = some ⟨oc_check_least, od_check_least, .func (PySem.W.fnOf "check_least" "check_least" (defArgs s_check_least) (defBody s_check_least) (defScope s_check_least) .none kV_check_least dc_check_least pm_check_least an_check_least cd_check_least ct_check_least), sl_check_least⟩)
    (c_check_least : PySem.W.codeIn K cd_check_least "check_least" = true)
    (k_check_least : PySem.W.keepIn K (.ref f_check_least) = true)
    (a_are_cells : PySem.W.nsIn K mainGlobals "are_cells" = some (some (.ref f_are_cells)))
    (l_are_cells : K.lookup f_are_cells = some ⟨oc_are_cells, od_are_cells, .func (PySem.W.fnOf "are_cells" "are_cells" (defArgs s_are_cells) (defBody s_are_cells) (defScope s_are_cells) .none kV_are_cells dc_are_cells pm_are_cells an_are_cells cd_are_cells ct_are_cells), sl_are_cells⟩)
    (c_are_cells : PySem.W.codeIn K cd_are_cells "are_cells" = true)
    (k_are_cells : PySem.W.keepIn K (.ref f_are_cells) = true)
    (a_is_content : PySem.W.nsIn K mainGlobals "is_content" = some (some (.ref f_is_content)))
    (l_is_content : K.lookup f_is_content = some ⟨oc_is_content, od_is_content, .func (PySem.W.fnOf "is_content" "is_content" (defArgs s_is_content) (defBody s_is_content) (defScope s_is_content) .none kV_is_content dc_is_content pm_is_content an_is_content cd_is_content ct_is_content), sl_is_content⟩)
    (c_is_content : PySem.W.codeIn K cd_is_content "is_content" = true)
    (k_is_content : PySem.W.keepIn K (.ref f_is_content) = true)
    (a_check_file : PySem.W.nsIn K mainGlobals "check_file" = some (some (.ref f_check_file)))
    (l_check_file : K.lookup f_check_file = some ⟨oc_check_file, od_check_file, .func (PySem.W.fnOf "check_file" "check_file" (defArgs s_check_file) (defBody s_check_file) (defScope s_check_file) .none kV_check_file dc_check_file pm_check_file an_check_file cd_check_file ct_check_file), sl_check_file⟩)
    (c_check_file : PySem.W.codeIn K cd_check_file "check_file" = true)
    (k_check_file : PySem.W.keepIn K (.ref f_check_file) = true)
    (a_are_steps : PySem.W.nsIn K mainGlobals "are_steps" = some (some (.ref f_are_steps)))
    (l_are_steps : K.lookup f_are_steps = some ⟨oc_are_steps, od_are_steps, .func (PySem.W.fnOf "are_steps" "are_steps" (defArgs s_are_steps) (defBody s_are_steps) (defScope s_are_steps) .none kV_are_steps dc_are_steps pm_are_steps an_are_steps cd_are_steps ct_are_steps), sl_are_steps⟩)
    (c_are_steps : PySem.W.codeIn K cd_are_steps "are_steps" = true)
    (k_are_steps : PySem.W.keepIn K (.ref f_are_steps) = true)
    (a_is_write : PySem.W.nsIn K mainGlobals "is_write" = some (some (.ref f_is_write)))
    (l_is_write : K.lookup f_is_write = some ⟨oc_is_write, od_is_write, .func (PySem.W.fnOf "is_write" "is_write" (defArgs s_is_write) (defBody s_is_write) (defScope s_is_write) .none kV_is_write dc_is_write pm_is_write an_is_write cd_is_write ct_is_write), sl_is_write⟩)
    (c_is_write : PySem.W.codeIn K cd_is_write "is_write" = true)
    (k_is_write : PySem.W.keepIn K (.ref f_is_write) = true)
    (a_check_write : PySem.W.nsIn K mainGlobals "check_write" = some (some (.ref f_check_write)))
    (l_check_write : K.lookup f_check_write = some ⟨oc_check_write, od_check_write, .func (PySem.W.fnOf "check_write" "check_write" (defArgs s_check_write) (defBody s_check_write) (defScope s_check_write) .none kV_check_write dc_check_write pm_check_write an_check_write cd_check_write ct_check_write), sl_check_write⟩)
    (c_check_write : PySem.W.codeIn K cd_check_write "check_write" = true)
    (k_check_write : PySem.W.keepIn K (.ref f_check_write) = true)
    (a_number_in : PySem.W.nsIn K mainGlobals "number_in" = some (some (.ref f_number_in)))
    (l_number_in : K.lookup f_number_in = some ⟨oc_number_in, od_number_in, .func (PySem.W.fnOf "number_in" "number_in" (defArgs s_number_in) (defBody s_number_in) (defScope s_number_in) .none kV_number_in dc_number_in pm_number_in an_number_in cd_number_in ct_number_in), sl_number_in⟩)
    (c_number_in : PySem.W.codeIn K cd_number_in "number_in" = true)
    (k_number_in : PySem.W.keepIn K (.ref f_number_in) = true)
    (a_step_in : PySem.W.nsIn K mainGlobals "step_in" = some (some (.ref f_step_in)))
    (l_step_in : K.lookup f_step_in = some ⟨oc_step_in, od_step_in, .func (PySem.W.fnOf "step_in" "step_in" (defArgs s_step_in) (defBody s_step_in) (defScope s_step_in) .none kV_step_in dc_step_in pm_step_in an_step_in cd_step_in ct_step_in), sl_step_in⟩)
    (c_step_in : PySem.W.codeIn K cd_step_in "step_in" = true)
    (k_step_in : PySem.W.keepIn K (.ref f_step_in) = true)
    (a_read_script : PySem.W.nsIn K mainGlobals "read_script" = some (some (.ref f_read_script)))
    (l_read_script : K.lookup f_read_script = some ⟨oc_read_script, od_read_script, .func (PySem.W.fnOf "read_script" "read_script" (defArgs s_read_script) (defBody s_read_script) (defScope s_read_script) .none kV_read_script dc_read_script pm_read_script an_read_script cd_read_script ct_read_script), sl_read_script⟩)
    (c_read_script : PySem.W.codeIn K cd_read_script "read_script" = true)
    (k_read_script : PySem.W.keepIn K (.ref f_read_script) = true)
    (a_write_in : PySem.W.nsIn K mainGlobals "write_in" = some (some (.ref f_write_in)))
    (l_write_in : K.lookup f_write_in = some ⟨oc_write_in, od_write_in, .func (PySem.W.fnOf "write_in" "write_in" (defArgs s_write_in) (defBody s_write_in) (defScope s_write_in) .none kV_write_in dc_write_in pm_write_in an_write_in cd_write_in ct_write_in), sl_write_in⟩)
    (c_write_in : PySem.W.codeIn K cd_write_in "write_in" = true)
    (k_write_in : PySem.W.keepIn K (.ref f_write_in) = true)
    (a_read_history : PySem.W.nsIn K mainGlobals "read_history" = some (some (.ref f_read_history)))
    (l_read_history : K.lookup f_read_history = some ⟨oc_read_history, od_read_history, .func (PySem.W.fnOf "read_history" "read_history" (defArgs s_read_history) (defBody s_read_history) (defScope s_read_history) .none kV_read_history dc_read_history pm_read_history an_read_history cd_read_history ct_read_history), sl_read_history⟩)
    (c_read_history : PySem.W.codeIn K cd_read_history "read_history" = true)
    (k_read_history : PySem.W.keepIn K (.ref f_read_history) = true)
    (a_law_spring : PySem.W.nsIn K mainGlobals "_law_spring" = some (some (.ref f_law_spring)))
    (l_law_spring : K.lookup f_law_spring = some ⟨oc_law_spring, od_law_spring, .func (PySem.W.fnOf "_law_spring" "_law_spring" (defArgs s_law_spring) (defBody s_law_spring) (defScope s_law_spring) .none kV_law_spring dc_law_spring pm_law_spring an_law_spring cd_law_spring ct_law_spring), sl_law_spring⟩)
    (c_law_spring : PySem.W.codeIn K cd_law_spring "_law_spring" = true)
    (k_law_spring : PySem.W.keepIn K (.ref f_law_spring) = true)
    (a_law_sip : PySem.W.nsIn K mainGlobals "_law_sip" = some (some (.ref f_law_sip)))
    (l_law_sip : K.lookup f_law_sip = some ⟨oc_law_sip, od_law_sip, .func (PySem.W.fnOf "_law_sip" "_law_sip" (defArgs s_law_sip) (defBody s_law_sip) (defScope s_law_sip) .none kV_law_sip dc_law_sip pm_law_sip an_law_sip cd_law_sip ct_law_sip), sl_law_sip⟩)
    (c_law_sip : PySem.W.codeIn K cd_law_sip "_law_sip" = true)
    (k_law_sip : PySem.W.keepIn K (.ref f_law_sip) = true)
    (a_law_cells : PySem.W.nsIn K mainGlobals "_law_cells" = some (some (.ref f_law_cells)))
    (l_law_cells : K.lookup f_law_cells = some ⟨oc_law_cells, od_law_cells, .func (PySem.W.fnOf "_law_cells" "_law_cells" (defArgs s_law_cells) (defBody s_law_cells) (defScope s_law_cells) .none kV_law_cells dc_law_cells pm_law_cells an_law_cells cd_law_cells ct_law_cells), sl_law_cells⟩)
    (c_law_cells : PySem.W.codeIn K cd_law_cells "_law_cells" = true)
    (k_law_cells : PySem.W.keepIn K (.ref f_law_cells) = true)
    (a_law_text : PySem.W.nsIn K mainGlobals "_law_text" = some (some (.ref f_law_text)))
    (l_law_text : K.lookup f_law_text = some ⟨oc_law_text, od_law_text, .func (PySem.W.fnOf "_law_text" "_law_text" (defArgs s_law_text) (defBody s_law_text) (defScope s_law_text) .none kV_law_text dc_law_text pm_law_text an_law_text cd_law_text ct_law_text), sl_law_text⟩)
    (c_law_text : PySem.W.codeIn K cd_law_text "_law_text" = true)
    (k_law_text : PySem.W.keepIn K (.ref f_law_text) = true)
    (a_law_writes : PySem.W.nsIn K mainGlobals "_law_writes" = some (some (.ref f_law_writes)))
    (l_law_writes : K.lookup f_law_writes = some ⟨oc_law_writes, od_law_writes, .func (PySem.W.fnOf "_law_writes" "_law_writes" (defArgs s_law_writes) (defBody s_law_writes) (defScope s_law_writes) .none kV_law_writes dc_law_writes pm_law_writes an_law_writes cd_law_writes ct_law_writes), sl_law_writes⟩)
    (c_law_writes : PySem.W.codeIn K cd_law_writes "_law_writes" = true)
    (k_law_writes : PySem.W.keepIn K (.ref f_law_writes) = true)
    (a_law_spot : PySem.W.nsIn K mainGlobals "_law_spot" = some (some (.ref f_law_spot)))
    (l_law_spot : K.lookup f_law_spot = some ⟨oc_law_spot, od_law_spot, .func (PySem.W.fnOf "_law_spot" "_law_spot" (defArgs s_law_spot) (defBody s_law_spot) (defScope s_law_spot) .none kV_law_spot dc_law_spot pm_law_spot an_law_spot cd_law_spot ct_law_spot), sl_law_spot⟩)
    (c_law_spot : PySem.W.codeIn K cd_law_spot "_law_spot" = true)
    (k_law_spot : PySem.W.keepIn K (.ref f_law_spot) = true)
    (a_law_steps : PySem.W.nsIn K mainGlobals "_law_steps" = some (some (.ref f_law_steps)))
    (l_law_steps : K.lookup f_law_steps = some ⟨oc_law_steps, od_law_steps, .func (PySem.W.fnOf "_law_steps" "_law_steps" (defArgs s_law_steps) (defBody s_law_steps) (defScope s_law_steps) .none kV_law_steps dc_law_steps pm_law_steps an_law_steps cd_law_steps ct_law_steps), sl_law_steps⟩)
    (c_law_steps : PySem.W.codeIn K cd_law_steps "_law_steps" = true)
    (k_law_steps : PySem.W.keepIn K (.ref f_law_steps) = true)
    (a_law_no_steps : PySem.W.nsIn K mainGlobals "_law_no_steps" = some (some (.ref f_law_no_steps)))
    (l_law_no_steps : K.lookup f_law_no_steps = some ⟨oc_law_no_steps, od_law_no_steps, .func (PySem.W.fnOf "_law_no_steps" "_law_no_steps" (defArgs s_law_no_steps) (defBody s_law_no_steps) (defScope s_law_no_steps) .none kV_law_no_steps dc_law_no_steps pm_law_no_steps an_law_no_steps cd_law_no_steps ct_law_no_steps), sl_law_no_steps⟩)
    (c_law_no_steps : PySem.W.codeIn K cd_law_no_steps "_law_no_steps" = true)
    (k_law_no_steps : PySem.W.keepIn K (.ref f_law_no_steps) = true)
    (a_law_no_writes : PySem.W.nsIn K mainGlobals "_law_no_writes" = some (some (.ref f_law_no_writes)))
    (l_law_no_writes : K.lookup f_law_no_writes = some ⟨oc_law_no_writes, od_law_no_writes, .func (PySem.W.fnOf "_law_no_writes" "_law_no_writes" (defArgs s_law_no_writes) (defBody s_law_no_writes) (defScope s_law_no_writes) .none kV_law_no_writes dc_law_no_writes pm_law_no_writes an_law_no_writes cd_law_no_writes ct_law_no_writes), sl_law_no_writes⟩)
    (c_law_no_writes : PySem.W.codeIn K cd_law_no_writes "_law_no_writes" = true)
    (k_law_no_writes : PySem.W.keepIn K (.ref f_law_no_writes) = true)
    (a_law_all_told : PySem.W.nsIn K mainGlobals "_law_all_told" = some (some (.ref f_law_all_told)))
    (l_law_all_told : K.lookup f_law_all_told = some ⟨oc_law_all_told, od_law_all_told, .func (PySem.W.fnOf "_law_all_told" "_law_all_told" (defArgs s_law_all_told) (defBody s_law_all_told) (defScope s_law_all_told) .none kV_law_all_told dc_law_all_told pm_law_all_told an_law_all_told cd_law_all_told ct_law_all_told), sl_law_all_told⟩)
    (c_law_all_told : PySem.W.codeIn K cd_law_all_told "_law_all_told" = true)
    (k_law_all_told : PySem.W.keepIn K (.ref f_law_all_told) = true)
    (a_law : PySem.W.nsIn K mainGlobals "law" = some (some (.ref f_law)))
    (l_law : K.lookup f_law = some ⟨oc_law, od_law, .func (PySem.W.fnOf "law" "law" (defArgs s_law) (defBody s_law) (defScope s_law) .none kV_law dc_law pm_law an_law cd_law ct_law), sl_law⟩)
    (c_law : PySem.W.codeIn K cd_law "law" = true)
    (k_law : PySem.W.keepIn K (.ref f_law) = true)
    (a_File_init : PySem.W.findIn K (.ref C_File) "__init__" = some (some (.ref f_File_init)))
    (i_File_init : PySem.W.isFn K (.ref f_File_init) = true)
    (l_File_init : K.lookup f_File_init = some ⟨oc_File_init, od_File_init, .func (PySem.W.fnOf "__init__" "File.__init__" (defArgs s_File_init) (defBody s_File_init) (defScope s_File_init) (.ref T_File_init) kV_File_init dc_File_init pm_File_init an_File_init cd_File_init ct_File_init), sl_File_init⟩)
    (c_File_init : PySem.W.codeIn K cd_File_init "File.__init__" = true)
    (k_File_init : PySem.W.keepIn K (.ref f_File_init) = true)
    (ld_File_init : K.lookup T_File_init = some ⟨ocT_File_init, odT_File_init, .seq #[(.str "" tk0_File_init)] nT_File_init, slT_File_init⟩)
    (a_File_len : PySem.W.findIn K (.ref C_File) "__len__" = some (some (.ref f_File_len)))
    (i_File_len : PySem.W.isFn K (.ref f_File_len) = true)
    (l_File_len : K.lookup f_File_len = some ⟨oc_File_len, od_File_len, .func (PySem.W.fnOf "__len__" "File.__len__" (defArgs s_File_len) (defBody s_File_len) (defScope s_File_len) .none kV_File_len dc_File_len pm_File_len an_File_len cd_File_len ct_File_len), sl_File_len⟩)
    (c_File_len : PySem.W.codeIn K cd_File_len "File.__len__" = true)
    (k_File_len : PySem.W.keepIn K (.ref f_File_len) = true)
    (a_Keep_init : PySem.W.findIn K (.ref C_Keep) "__init__" = some (some (.ref f_Keep_init)))
    (i_Keep_init : PySem.W.isFn K (.ref f_Keep_init) = true)
    (l_Keep_init : K.lookup f_Keep_init = some ⟨oc_Keep_init, od_Keep_init, .func (PySem.W.fnOf "__init__" "Keep.__init__" (defArgs s_Keep_init) (defBody s_Keep_init) (defScope s_Keep_init) .none kV_Keep_init dc_Keep_init pm_Keep_init an_Keep_init cd_Keep_init ct_Keep_init), sl_Keep_init⟩)
    (c_Keep_init : PySem.W.codeIn K cd_Keep_init "Keep.__init__" = true)
    (k_Keep_init : PySem.W.keepIn K (.ref f_Keep_init) = true)
    (a_Lean_init : PySem.W.findIn K (.ref C_Lean) "__init__" = some (some (.ref f_Lean_init)))
    (i_Lean_init : PySem.W.isFn K (.ref f_Lean_init) = true)
    (l_Lean_init : K.lookup f_Lean_init = some ⟨oc_Lean_init, od_Lean_init, .func (PySem.W.fnOf "__init__" "Lean.__init__" (defArgs s_Lean_init) (defBody s_Lean_init) (defScope s_Lean_init) .none kV_Lean_init dc_Lean_init pm_Lean_init an_Lean_init cd_Lean_init ct_Lean_init), sl_Lean_init⟩)
    (c_Lean_init : PySem.W.codeIn K cd_Lean_init "Lean.__init__" = true)
    (k_Lean_init : PySem.W.keepIn K (.ref f_Lean_init) = true)
    (a_Dig_init : PySem.W.findIn K (.ref C_Dig) "__init__" = some (some (.ref f_Dig_init)))
    (i_Dig_init : PySem.W.isFn K (.ref f_Dig_init) = true)
    (l_Dig_init : K.lookup f_Dig_init = some ⟨oc_Dig_init, od_Dig_init, .func (PySem.W.fnOf "__init__" "Dig.__init__" (defArgs s_Dig_init) (defBody s_Dig_init) (defScope s_Dig_init) .none kV_Dig_init dc_Dig_init pm_Dig_init an_Dig_init cd_Dig_init ct_Dig_init), sl_Dig_init⟩)
    (c_Dig_init : PySem.W.codeIn K cd_Dig_init "Dig.__init__" = true)
    (k_Dig_init : PySem.W.keepIn K (.ref f_Dig_init) = true)
    (a_Script_init : PySem.W.findIn K (.ref C_Script) "__init__" = some (some (.ref f_Script_init)))
    (i_Script_init : PySem.W.isFn K (.ref f_Script_init) = true)
    (l_Script_init : K.lookup f_Script_init = some ⟨oc_Script_init, od_Script_init, .func (PySem.W.fnOf "__init__" "Script.__init__" (defArgs s_Script_init) (defBody s_Script_init) (defScope s_Script_init) (.ref T_Script_init) kV_Script_init dc_Script_init pm_Script_init an_Script_init cd_Script_init ct_Script_init), sl_Script_init⟩)
    (c_Script_init : PySem.W.codeIn K cd_Script_init "Script.__init__" = true)
    (k_Script_init : PySem.W.keepIn K (.ref f_Script_init) = true)
    (ld_Script_init : K.lookup T_Script_init = some ⟨ocT_Script_init, odT_Script_init, .seq #[.none] nT_Script_init, slT_Script_init⟩)
    (a_History_init : PySem.W.findIn K (.ref C_History) "__init__" = some (some (.ref f_History_init)))
    (i_History_init : PySem.W.isFn K (.ref f_History_init) = true)
    (l_History_init : K.lookup f_History_init = some ⟨oc_History_init, od_History_init, .func (PySem.W.fnOf "__init__" "History.__init__" (defArgs s_History_init) (defBody s_History_init) (defScope s_History_init) (.ref T_History_init) kV_History_init dc_History_init pm_History_init an_History_init cd_History_init ct_History_init), sl_History_init⟩)
    (c_History_init : PySem.W.codeIn K cd_History_init "History.__init__" = true)
    (k_History_init : PySem.W.keepIn K (.ref f_History_init) = true)
    (ld_History_init : K.lookup T_History_init = some ⟨ocT_History_init, odT_History_init, .seq #[.none] nT_History_init, slT_History_init⟩)
    (a_History_iadd : PySem.W.findIn K (.ref C_History) "__iadd__" = some (some (.ref f_History_iadd)))
    (i_History_iadd : PySem.W.isFn K (.ref f_History_iadd) = true)
    (l_History_iadd : K.lookup f_History_iadd = some ⟨oc_History_iadd, od_History_iadd, .func (PySem.W.fnOf "__iadd__" "History.__iadd__" (defArgs s_History_iadd) (defBody s_History_iadd) (defScope s_History_iadd) .none kV_History_iadd dc_History_iadd pm_History_iadd an_History_iadd cd_History_iadd ct_History_iadd), sl_History_iadd⟩)
    (c_History_iadd : PySem.W.codeIn K cd_History_iadd "History.__iadd__" = true)
    (k_History_iadd : PySem.W.keepIn K (.ref f_History_iadd) = true)
    (ohn : PySem.W.specialIn K (.builtin "object.__class__") "__get__" = some (some (.builtin "getset_descriptor.__get__")))
    (otk : PySem.W.takesIn K (.builtin "object.__class__") = some true)
    (pg_File : PySem.W.plainGet K C_File Str.empty = true)
    (hd_File : PySem.W.hasDictIn K C_File = true)
    (po_File : PySem.W.plainOver K C_File = true)
    (sa_File : PySem.W.findIn K (.ref C_File) "__setattr__" = some (some (.builtin "object.__setattr__")))
    (ha_File : PySem.W.findIn K (.ref C_File) "__class__" = some (some (.builtin "object.__class__")))
    (mr_File : PySem.W.mroIn K C_File (.type "object") = some true)
    (mk_File : PySem.W.makesIn K C_File = true)
    (kc_File : PySem.W.keepIn K (.ref C_File) = true)
    (na_File_row : PySem.W.findIn K (.ref C_File) "row" = some none)
    (pg_Full : PySem.W.plainGet K C_Full Str.empty = true)
    (hd_Full : PySem.W.hasDictIn K C_Full = true)
    (po_Full : PySem.W.plainOver K C_Full = true)
    (sa_Full : PySem.W.findIn K (.ref C_Full) "__setattr__" = some (some (.builtin "object.__setattr__")))
    (ha_Full : PySem.W.findIn K (.ref C_Full) "__class__" = some (some (.builtin "object.__class__")))
    (mr_Full : PySem.W.mroIn K C_Full (.type "object") = some true)
    (ms_Full : PySem.W.mroIn K C_Full (.ref C_Full) = some true)
    (mk_Full : PySem.W.makesIn K C_Full = true)
    (kc_Full : PySem.W.keepIn K (.ref C_Full) = true)
    (ii_Full : PySem.W.findIn K (.ref C_Full) "__init__" = some (some (.builtin "object.__init__")))
    (pg_Keep : PySem.W.plainGet K C_Keep Str.empty = true)
    (hd_Keep : PySem.W.hasDictIn K C_Keep = true)
    (po_Keep : PySem.W.plainOver K C_Keep = true)
    (sa_Keep : PySem.W.findIn K (.ref C_Keep) "__setattr__" = some (some (.builtin "object.__setattr__")))
    (ha_Keep : PySem.W.findIn K (.ref C_Keep) "__class__" = some (some (.builtin "object.__class__")))
    (mr_Keep : PySem.W.mroIn K C_Keep (.type "object") = some true)
    (ms_Keep : PySem.W.mroIn K C_Keep (.ref C_Keep) = some true)
    (mk_Keep : PySem.W.makesIn K C_Keep = true)
    (kc_Keep : PySem.W.keepIn K (.ref C_Keep) = true)
    (na_Keep_wide : PySem.W.findIn K (.ref C_Keep) "wide" = some none)
    (pg_Lean : PySem.W.plainGet K C_Lean Str.empty = true)
    (hd_Lean : PySem.W.hasDictIn K C_Lean = true)
    (po_Lean : PySem.W.plainOver K C_Lean = true)
    (sa_Lean : PySem.W.findIn K (.ref C_Lean) "__setattr__" = some (some (.builtin "object.__setattr__")))
    (ha_Lean : PySem.W.findIn K (.ref C_Lean) "__class__" = some (some (.builtin "object.__class__")))
    (mr_Lean : PySem.W.mroIn K C_Lean (.type "object") = some true)
    (ms_Lean : PySem.W.mroIn K C_Lean (.ref C_Lean) = some true)
    (mk_Lean : PySem.W.makesIn K C_Lean = true)
    (kc_Lean : PySem.W.keepIn K (.ref C_Lean) = true)
    (na_Lean_wide : PySem.W.findIn K (.ref C_Lean) "wide" = some none)
    (pg_Dig : PySem.W.plainGet K C_Dig Str.empty = true)
    (hd_Dig : PySem.W.hasDictIn K C_Dig = true)
    (po_Dig : PySem.W.plainOver K C_Dig = true)
    (sa_Dig : PySem.W.findIn K (.ref C_Dig) "__setattr__" = some (some (.builtin "object.__setattr__")))
    (ha_Dig : PySem.W.findIn K (.ref C_Dig) "__class__" = some (some (.builtin "object.__class__")))
    (mr_Dig : PySem.W.mroIn K C_Dig (.type "object") = some true)
    (ms_Dig : PySem.W.mroIn K C_Dig (.ref C_Dig) = some true)
    (mk_Dig : PySem.W.makesIn K C_Dig = true)
    (kc_Dig : PySem.W.keepIn K (.ref C_Dig) = true)
    (na_Dig_wide : PySem.W.findIn K (.ref C_Dig) "wide" = some none)
    (pg_Script : PySem.W.plainGet K C_Script Str.empty = true)
    (hd_Script : PySem.W.hasDictIn K C_Script = true)
    (po_Script : PySem.W.plainOver K C_Script = true)
    (sa_Script : PySem.W.findIn K (.ref C_Script) "__setattr__" = some (some (.builtin "object.__setattr__")))
    (ha_Script : PySem.W.findIn K (.ref C_Script) "__class__" = some (some (.builtin "object.__class__")))
    (mr_Script : PySem.W.mroIn K C_Script (.type "object") = some true)
    (mk_Script : PySem.W.makesIn K C_Script = true)
    (kc_Script : PySem.W.keepIn K (.ref C_Script) = true)
    (na_Script_rows : PySem.W.findIn K (.ref C_Script) "rows" = some none)
    (pg_History : PySem.W.plainGet K C_History Str.empty = true)
    (hd_History : PySem.W.hasDictIn K C_History = true)
    (po_History : PySem.W.plainOver K C_History = true)
    (sa_History : PySem.W.findIn K (.ref C_History) "__setattr__" = some (some (.builtin "object.__setattr__")))
    (ha_History : PySem.W.findIn K (.ref C_History) "__class__" = some (some (.builtin "object.__class__")))
    (mr_History : PySem.W.mroIn K C_History (.type "object") = some true)
    (ms_History : PySem.W.mroIn K C_History (.ref C_History) = some true)
    (mk_History : PySem.W.makesIn K C_History = true)
    (kc_History : PySem.W.keepIn K (.ref C_History) = true)
    (na_History_start : PySem.W.findIn K (.ref C_History) "start" = some none)
    (na_History_rows : PySem.W.findIn K (.ref C_History) "rows" = some none)
    (ic_Dig : PySem.W.isClsIn K C_Dig = true)
    (tc_Dig : PySem.W.typeIn K (.ref C_Dig) = some (.type "type"))
    (ic_File : PySem.W.isClsIn K C_File = true)
    (tc_File : PySem.W.typeIn K (.ref C_File) = some (.type "type"))
    (ic_Full : PySem.W.isClsIn K C_Full = true)
    (tc_Full : PySem.W.typeIn K (.ref C_Full) = some (.type "type"))
    (ic_Keep : PySem.W.isClsIn K C_Keep = true)
    (tc_Keep : PySem.W.typeIn K (.ref C_Keep) = some (.type "type"))
    (ic_Lean : PySem.W.isClsIn K C_Lean = true)
    (tc_Lean : PySem.W.typeIn K (.ref C_Lean) = some (.type "type"))
    (ic_Step : PySem.W.isClsIn K C_Step = true)
    (tc_Step : PySem.W.typeIn K (.ref C_Step) = some (.type "type"))
    (sf_History : PySem.W.selfFirst K C_History = true)
    (s_File_str : PySem.W.subIn K (.ref C_File) (.type "str") = some false)
    (s_Full_Dig : PySem.W.subIn K (.ref C_Full) (.ref C_Dig) = some false)
    (s_Full_Keep : PySem.W.subIn K (.ref C_Full) (.ref C_Keep) = some false)
    (s_Full_Lean : PySem.W.subIn K (.ref C_Full) (.ref C_Lean) = some false)
    (s_Full_Step : PySem.W.subIn K (.ref C_Full) (.ref C_Step) = some true)
    (s_Full_str : PySem.W.subIn K (.ref C_Full) (.type "str") = some false)
    (s_Keep_Dig : PySem.W.subIn K (.ref C_Keep) (.ref C_Dig) = some false)
    (s_Keep_Full : PySem.W.subIn K (.ref C_Keep) (.ref C_Full) = some false)
    (s_Keep_Lean : PySem.W.subIn K (.ref C_Keep) (.ref C_Lean) = some false)
    (s_Keep_Step : PySem.W.subIn K (.ref C_Keep) (.ref C_Step) = some true)
    (s_Keep_str : PySem.W.subIn K (.ref C_Keep) (.type "str") = some false)
    (s_Lean_Dig : PySem.W.subIn K (.ref C_Lean) (.ref C_Dig) = some false)
    (s_Lean_Full : PySem.W.subIn K (.ref C_Lean) (.ref C_Full) = some false)
    (s_Lean_Keep : PySem.W.subIn K (.ref C_Lean) (.ref C_Keep) = some false)
    (s_Lean_Step : PySem.W.subIn K (.ref C_Lean) (.ref C_Step) = some true)
    (s_Lean_str : PySem.W.subIn K (.ref C_Lean) (.type "str") = some false)
    (s_Dig_Full : PySem.W.subIn K (.ref C_Dig) (.ref C_Full) = some false)
    (s_Dig_Keep : PySem.W.subIn K (.ref C_Dig) (.ref C_Keep) = some false)
    (s_Dig_Lean : PySem.W.subIn K (.ref C_Dig) (.ref C_Lean) = some false)
    (s_Dig_Step : PySem.W.subIn K (.ref C_Dig) (.ref C_Step) = some true)
    (s_Dig_str : PySem.W.subIn K (.ref C_Dig) (.type "str") = some false)
    (s_Script_str : PySem.W.subIn K (.ref C_Script) (.type "str") = some false)
    (s_History_File : PySem.W.subIn K (.ref C_History) (.ref C_File) = some false)
    (s_History_str : PySem.W.subIn K (.ref C_History) (.type "str") = some false)
    (zop : PySem.W.nsIn K cStatics "thirdparty.any" = some none)
    (ac_InvalidFile : PySem.W.nsIn K mainGlobals "InvalidFile" = some (some (.ref C_InvalidFile)))
    (ac_HoleError : PySem.W.nsIn K mainGlobals "HoleError" = some (some (.ref C_HoleError)))
    (xL_InvalidFile : K.lookup C_InvalidFile = some (excClassObj nm_InvalidFile q_InvalidFile C_InvalidFile NN_InvalidFile bs_InvalidFile [.ref C_HoleError, .type "ValueError", .type "Exception", .type "BaseException", .type "object"] true sn_InvalidFile sub_InvalidFile ab_InvalidFile col_InvalidFile dd_InvalidFile m0_InvalidFile m1_InvalidFile m2_InvalidFile m3_InvalidFile m5_InvalidFile "ValueError.__new__"))
    (sa_InvalidFile : PySem.W.findIn K (.ref C_InvalidFile) "__setattr__" = some (some (.builtin "object.__setattr__")))
    (nb_InvalidFile : PySem.W.findIn K (.ref C_InvalidFile) "value" = some none)
    (i_InvalidFile : PySem.W.findIn K (.ref C_InvalidFile) "__init__" = some (some (.ref I_InvalidFile)))
    (t_InvalidFile : PySem.W.typeIn K (.ref I_InvalidFile) = some (.type "function"))
    (l_InvalidFile : K.lookup I_InvalidFile = some ⟨oc_InvalidFile, od_InvalidFile, .func (ksFn "__init__" "InvalidFile.__init__" (defArgs si_InvalidFile) (defBody si_InvalidFile) (defScope si_InvalidFile) (.ref T_InvalidFile) kV_InvalidFile dc_InvalidFile pm_InvalidFile an_InvalidFile (.ref cda_InvalidFile) ct_InvalidFile cc_InvalidFile), sl_InvalidFile⟩)
    (ld_InvalidFile : K.lookup T_InvalidFile = some ⟨ocT_InvalidFile, odT_InvalidFile, .seq #[.none] nT_InvalidFile, slT_InvalidFile⟩)
    (cd_InvalidFile : PySem.W.codeIn K (.ref cda_InvalidFile) "InvalidFile.__init__" = true)
    (cr_InvalidFile : K.lookup cda_InvalidFile = some ⟨ccl_InvalidFile, cdd_InvalidFile, .fields vs_InvalidFile, ccs_InvalidFile⟩)
    (v2_InvalidFile : vs_InvalidFile[2]? = some (.str file_InvalidFile tf_InvalidFile))
    (fl_InvalidFile : ((PySem.Challenge.rw_keptholes_k81_texts_that_are_none.prog.main.file : Str) == file_InvalidFile) = true)
    (clc_InvalidFile : K.lookup cc_InvalidFile = some ⟨cl_InvalidFile, cld_InvalidFile, .cell (some (.ref C_InvalidFile)), csl_InvalidFile⟩)
    (al_InvalidFile : PySem.W.ks_superIn K C_InvalidFile C_InvalidFile "__init__" = some (some (.builtin "ValueError.__init__")))
    (sV_InvalidFile : PySem.W.subIn K (.ref C_InvalidFile) (.type "ValueError") = some true)
    (eC_InvalidFile : PySem.W.subIn K (.ref C_InvalidFile) (.type "BaseException") = some true)
    (sC_InvalidFile : PySem.W.mroIn K C_InvalidFile (.ref C_InvalidFile) = some true)
    (kC_InvalidFile : PySem.W.keepIn K (.ref C_InvalidFile) = true)
    (tC_InvalidFile : PySem.W.typeIn K (.ref C_InvalidFile) = some (.type "type"))
    (ac_InvalidNumber : PySem.W.nsIn K mainGlobals "InvalidNumber" = some (some (.ref C_InvalidNumber)))
    (xL_InvalidNumber : K.lookup C_InvalidNumber = some (excClassObj nm_InvalidNumber q_InvalidNumber C_InvalidNumber NN_InvalidNumber bs_InvalidNumber [.ref C_HoleError, .type "ValueError", .type "Exception", .type "BaseException", .type "object"] true sn_InvalidNumber sub_InvalidNumber ab_InvalidNumber col_InvalidNumber dd_InvalidNumber m0_InvalidNumber m1_InvalidNumber m2_InvalidNumber m3_InvalidNumber m5_InvalidNumber "ValueError.__new__"))
    (sa_InvalidNumber : PySem.W.findIn K (.ref C_InvalidNumber) "__setattr__" = some (some (.builtin "object.__setattr__")))
    (nb_InvalidNumber : PySem.W.findIn K (.ref C_InvalidNumber) "value" = some none)
    (i_InvalidNumber : PySem.W.findIn K (.ref C_InvalidNumber) "__init__" = some (some (.ref I_InvalidNumber)))
    (t_InvalidNumber : PySem.W.typeIn K (.ref I_InvalidNumber) = some (.type "function"))
    (l_InvalidNumber : K.lookup I_InvalidNumber = some ⟨oc_InvalidNumber, od_InvalidNumber, .func (ksFn "__init__" "InvalidNumber.__init__" (defArgs si_InvalidNumber) (defBody si_InvalidNumber) (defScope si_InvalidNumber) (.ref T_InvalidNumber) kV_InvalidNumber dc_InvalidNumber pm_InvalidNumber an_InvalidNumber (.ref cda_InvalidNumber) ct_InvalidNumber cc_InvalidNumber), sl_InvalidNumber⟩)
    (ld_InvalidNumber : K.lookup T_InvalidNumber = some ⟨ocT_InvalidNumber, odT_InvalidNumber, .seq #[.none] nT_InvalidNumber, slT_InvalidNumber⟩)
    (cd_InvalidNumber : PySem.W.codeIn K (.ref cda_InvalidNumber) "InvalidNumber.__init__" = true)
    (cr_InvalidNumber : K.lookup cda_InvalidNumber = some ⟨ccl_InvalidNumber, cdd_InvalidNumber, .fields vs_InvalidNumber, ccs_InvalidNumber⟩)
    (v2_InvalidNumber : vs_InvalidNumber[2]? = some (.str file_InvalidNumber tf_InvalidNumber))
    (fl_InvalidNumber : ((PySem.Challenge.rw_keptholes_k81_texts_that_are_none.prog.main.file : Str) == file_InvalidNumber) = true)
    (clc_InvalidNumber : K.lookup cc_InvalidNumber = some ⟨cl_InvalidNumber, cld_InvalidNumber, .cell (some (.ref C_InvalidNumber)), csl_InvalidNumber⟩)
    (al_InvalidNumber : PySem.W.ks_superIn K C_InvalidNumber C_InvalidNumber "__init__" = some (some (.builtin "ValueError.__init__")))
    (sV_InvalidNumber : PySem.W.subIn K (.ref C_InvalidNumber) (.type "ValueError") = some true)
    (eC_InvalidNumber : PySem.W.subIn K (.ref C_InvalidNumber) (.type "BaseException") = some true)
    (sC_InvalidNumber : PySem.W.mroIn K C_InvalidNumber (.ref C_InvalidNumber) = some true)
    (kC_InvalidNumber : PySem.W.keepIn K (.ref C_InvalidNumber) = true)
    (tC_InvalidNumber : PySem.W.typeIn K (.ref C_InvalidNumber) = some (.type "type"))
    (ac_InvalidScript : PySem.W.nsIn K mainGlobals "InvalidScript" = some (some (.ref C_InvalidScript)))
    (ac_InvalidList : PySem.W.nsIn K mainGlobals "InvalidList" = some (some (.ref C_InvalidList)))
    (ac_InvalidWrite : PySem.W.nsIn K mainGlobals "InvalidWrite" = some (some (.ref C_InvalidWrite)))
    (xL_InvalidWrite : K.lookup C_InvalidWrite = some (excClassObj nm_InvalidWrite q_InvalidWrite C_InvalidWrite NN_InvalidWrite bs_InvalidWrite [.ref C_HoleError, .type "ValueError", .type "Exception", .type "BaseException", .type "object"] true sn_InvalidWrite sub_InvalidWrite ab_InvalidWrite col_InvalidWrite dd_InvalidWrite m0_InvalidWrite m1_InvalidWrite m2_InvalidWrite m3_InvalidWrite m5_InvalidWrite "ValueError.__new__"))
    (sa_InvalidWrite : PySem.W.findIn K (.ref C_InvalidWrite) "__setattr__" = some (some (.builtin "object.__setattr__")))
    (nb_InvalidWrite : PySem.W.findIn K (.ref C_InvalidWrite) "value" = some none)
    (i_InvalidWrite : PySem.W.findIn K (.ref C_InvalidWrite) "__init__" = some (some (.ref I_InvalidWrite)))
    (t_InvalidWrite : PySem.W.typeIn K (.ref I_InvalidWrite) = some (.type "function"))
    (l_InvalidWrite : K.lookup I_InvalidWrite = some ⟨oc_InvalidWrite, od_InvalidWrite, .func (ksFn "__init__" "InvalidWrite.__init__" (defArgs si_InvalidWrite) (defBody si_InvalidWrite) (defScope si_InvalidWrite) (.ref T_InvalidWrite) kV_InvalidWrite dc_InvalidWrite pm_InvalidWrite an_InvalidWrite (.ref cda_InvalidWrite) ct_InvalidWrite cc_InvalidWrite), sl_InvalidWrite⟩)
    (ld_InvalidWrite : K.lookup T_InvalidWrite = some ⟨ocT_InvalidWrite, odT_InvalidWrite, .seq #[.none] nT_InvalidWrite, slT_InvalidWrite⟩)
    (cd_InvalidWrite : PySem.W.codeIn K (.ref cda_InvalidWrite) "InvalidWrite.__init__" = true)
    (cr_InvalidWrite : K.lookup cda_InvalidWrite = some ⟨ccl_InvalidWrite, cdd_InvalidWrite, .fields vs_InvalidWrite, ccs_InvalidWrite⟩)
    (v2_InvalidWrite : vs_InvalidWrite[2]? = some (.str file_InvalidWrite tf_InvalidWrite))
    (fl_InvalidWrite : ((PySem.Challenge.rw_keptholes_k81_texts_that_are_none.prog.main.file : Str) == file_InvalidWrite) = true)
    (clc_InvalidWrite : K.lookup cc_InvalidWrite = some ⟨cl_InvalidWrite, cld_InvalidWrite, .cell (some (.ref C_InvalidWrite)), csl_InvalidWrite⟩)
    (al_InvalidWrite : PySem.W.ks_superIn K C_InvalidWrite C_InvalidWrite "__init__" = some (some (.builtin "ValueError.__init__")))
    (sV_InvalidWrite : PySem.W.subIn K (.ref C_InvalidWrite) (.type "ValueError") = some true)
    (eC_InvalidWrite : PySem.W.subIn K (.ref C_InvalidWrite) (.type "BaseException") = some true)
    (sC_InvalidWrite : PySem.W.mroIn K C_InvalidWrite (.ref C_InvalidWrite) = some true)
    (kC_InvalidWrite : PySem.W.keepIn K (.ref C_InvalidWrite) = true)
    (tC_InvalidWrite : PySem.W.typeIn K (.ref C_InvalidWrite) = some (.type "type"))
    (ac_InvalidText : PySem.W.nsIn K mainGlobals "InvalidText" = some (some (.ref C_InvalidText)))
    (xL_InvalidText : K.lookup C_InvalidText = some (excClassObj nm_InvalidText q_InvalidText C_InvalidText NN_InvalidText bs_InvalidText [.ref C_HoleError, .type "ValueError", .type "Exception", .type "BaseException", .type "object"] true sn_InvalidText sub_InvalidText ab_InvalidText col_InvalidText dd_InvalidText m0_InvalidText m1_InvalidText m2_InvalidText m3_InvalidText m5_InvalidText "ValueError.__new__"))
    (sa_InvalidText : PySem.W.findIn K (.ref C_InvalidText) "__setattr__" = some (some (.builtin "object.__setattr__")))
    (ga_InvalidText : PySem.W.findIn K (.ref C_InvalidText) "__getattribute__" = some (some (.builtin "BaseException.__getattribute__")))
    (gg_InvalidText : PySem.W.findIn K (.ref C_InvalidText) "__getattr__" = some none)
    (nb_InvalidText : PySem.W.findIn K (.ref C_InvalidText) "spot" = some none)
    (i_InvalidText : PySem.W.findIn K (.ref C_InvalidText) "__init__" = some (some (.ref I_InvalidText)))
    (t_InvalidText : PySem.W.typeIn K (.ref I_InvalidText) = some (.type "function"))
    (l_InvalidText : K.lookup I_InvalidText = some ⟨oc_InvalidText, od_InvalidText, .func (ksFn "__init__" "InvalidText.__init__" (defArgs si_InvalidText) (defBody si_InvalidText) (defScope si_InvalidText) (.ref T_InvalidText) kV_InvalidText dc_InvalidText pm_InvalidText an_InvalidText (.ref cda_InvalidText) ct_InvalidText cc_InvalidText), sl_InvalidText⟩)
    (ld_InvalidText : K.lookup T_InvalidText = some ⟨ocT_InvalidText, odT_InvalidText, .seq #[.none] nT_InvalidText, slT_InvalidText⟩)
    (cd_InvalidText : PySem.W.codeIn K (.ref cda_InvalidText) "InvalidText.__init__" = true)
    (cr_InvalidText : K.lookup cda_InvalidText = some ⟨ccl_InvalidText, cdd_InvalidText, .fields vs_InvalidText, ccs_InvalidText⟩)
    (v2_InvalidText : vs_InvalidText[2]? = some (.str file_InvalidText tf_InvalidText))
    (fl_InvalidText : ((PySem.Challenge.rw_keptholes_k81_texts_that_are_none.prog.main.file : Str) == file_InvalidText) = true)
    (clc_InvalidText : K.lookup cc_InvalidText = some ⟨cl_InvalidText, cld_InvalidText, .cell (some (.ref C_InvalidText)), csl_InvalidText⟩)
    (al_InvalidText : PySem.W.ks_superIn K C_InvalidText C_InvalidText "__init__" = some (some (.builtin "ValueError.__init__")))
    (sV_InvalidText : PySem.W.subIn K (.ref C_InvalidText) (.type "ValueError") = some true)
    (eC_InvalidText : PySem.W.subIn K (.ref C_InvalidText) (.type "BaseException") = some true)
    (sC_InvalidText : PySem.W.mroIn K C_InvalidText (.ref C_InvalidText) = some true)
    (kC_InvalidText : PySem.W.keepIn K (.ref C_InvalidText) = true)
    (tC_InvalidText : PySem.W.typeIn K (.ref C_InvalidText) = some (.type "type"))
    (hC_InvalidText : PySem.W.hasDictIn K C_InvalidText = true)
    (iC_InvalidText : PySem.W.isClsIn K C_InvalidText = true)
    (s_InvalidText_InvalidText : PySem.W.subIn K (.ref C_InvalidText) (.ref C_InvalidText) = some true)
    (s_InvalidFile_InvalidText : PySem.W.subIn K (.ref C_InvalidFile) (.ref C_InvalidText) = some false)
    (s_InvalidNumber_InvalidText : PySem.W.subIn K (.ref C_InvalidNumber) (.ref C_InvalidText) = some false)
    (s_InvalidScript_InvalidText : PySem.W.subIn K (.ref C_InvalidScript) (.ref C_InvalidText) = some false)
    (s_InvalidList_InvalidText : PySem.W.subIn K (.ref C_InvalidList) (.ref C_InvalidText) = some false)
    (s_InvalidWrite_InvalidText : PySem.W.subIn K (.ref C_InvalidWrite) (.ref C_InvalidText) = some false) :
    ∃ fd : FuncData, (∀ (s : Shared) (v : Value), BindsTo s fd ⟨[v], []⟩ [("script", v)]) ∧ ∀ base : Heap, K.In base → base.Ns mainGlobals mg → FnOk PySem.Challenge.rw_keptholes_k81_texts_that_are_none.prog w K mg base CX0 9 fa fd ["script"] (toSp K spLaw) := by
  have e := hfa.symm.trans (PySem.W.mg_of X G a_law)
  have e2 : f_law = fa := by injection e with e; injection e with e; exact e.symm
  subst e2
  let R : Prg K mg := {
    n_bool := (PySem.W.mg_none_of X G z_bool)
    n_enumerate := (PySem.W.mg_none_of X G z_enumerate)
    n_int := (PySem.W.mg_none_of X G z_int)
    n_isinstance := (PySem.W.mg_none_of X G z_isinstance)
    n_len := (PySem.W.mg_none_of X G z_len)
    n_list := (PySem.W.mg_none_of X G z_list)
    n_min := (PySem.W.mg_none_of X G z_min)
    n_range := (PySem.W.mg_none_of X G z_range)
    n_str := (PySem.W.mg_none_of X G z_str)
    n_super := (PySem.W.mg_none_of X G z_super)
    n_tuple := (PySem.W.mg_none_of X G z_tuple)
    tg_SIGNS := (tg_SIGNS)
    g_SIGNS := (PySem.W.mg_of X G g_SIGNS)
    tg_DIGITS := (tg_DIGITS)
    g_DIGITS := (PySem.W.mg_of X G g_DIGITS)
    C_File := (C_File)
    mc_File := (PySem.W.mg_of X G ac_File)
    C_Step := (C_Step)
    mc_Step := (PySem.W.mg_of X G ac_Step)
    C_Full := (C_Full)
    mc_Full := (PySem.W.mg_of X G ac_Full)
    C_Keep := (C_Keep)
    mc_Keep := (PySem.W.mg_of X G ac_Keep)
    C_Lean := (C_Lean)
    mc_Lean := (PySem.W.mg_of X G ac_Lean)
    C_Dig := (C_Dig)
    mc_Dig := (PySem.W.mg_of X G ac_Dig)
    C_Script := (C_Script)
    mc_Script := (PySem.W.mg_of X G ac_Script)
    C_History := (C_History)
    mc_History := (PySem.W.mg_of X G ac_History)
    f_is_whole := (f_is_whole)
    d_is_whole := (PySem.W.fnOf "is_whole" "is_whole" (defArgs s_is_whole) (defBody s_is_whole) (defScope s_is_whole) .none kV_is_whole dc_is_whole pm_is_whole an_is_whole cd_is_whole ct_is_whole)
    F_is_whole := (fun_mk (st := s_is_whole) l_is_whole c_is_whole k_is_whole)
    b_is_whole := ((fun_mk (st := s_is_whole) l_is_whole c_is_whole k_is_whole).binds (ps := P_is_whole) fun _ _ _ _ _ _ us hl => match us, hl with | [_], _ => rfl)
    m_is_whole := (PySem.W.mg_of X G a_is_whole)
    f_check_least := (f_check_least)
    d_check_least := (PySem.W.fnOf "check_least" "check_least" (defArgs s_check_least) (defBody s_check_least) (defScope s_check_least) .none kV_check_least dc_check_least pm_check_least an_check_least cd_check_least ct_check_least)
    F_check_least := (fun_mk (st := s_check_least) l_check_least c_check_least k_check_least)
    b_check_least := ((fun_mk (st := s_check_least) l_check_least c_check_least k_check_least).binds (ps := P_check_least) fun _ _ _ _ _ _ us hl => match us, hl with | [_, _], _ => rfl)
    m_check_least := (PySem.W.mg_of X G a_check_least)
    f_are_cells := (f_are_cells)
    d_are_cells := (PySem.W.fnOf "are_cells" "are_cells" (defArgs s_are_cells) (defBody s_are_cells) (defScope s_are_cells) .none kV_are_cells dc_are_cells pm_are_cells an_are_cells cd_are_cells ct_are_cells)
    F_are_cells := (fun_mk (st := s_are_cells) l_are_cells c_are_cells k_are_cells)
    b_are_cells := ((fun_mk (st := s_are_cells) l_are_cells c_are_cells k_are_cells).binds (ps := P_are_cells) fun _ _ _ _ _ _ us hl => match us, hl with | [_], _ => rfl)
    m_are_cells := (PySem.W.mg_of X G a_are_cells)
    f_is_content := (f_is_content)
    d_is_content := (PySem.W.fnOf "is_content" "is_content" (defArgs s_is_content) (defBody s_is_content) (defScope s_is_content) .none kV_is_content dc_is_content pm_is_content an_is_content cd_is_content ct_is_content)
    F_is_content := (fun_mk (st := s_is_content) l_is_content c_is_content k_is_content)
    b_is_content := ((fun_mk (st := s_is_content) l_is_content c_is_content k_is_content).binds (ps := P_is_content) fun _ _ _ _ _ _ us hl => match us, hl with | [_], _ => rfl)
    m_is_content := (PySem.W.mg_of X G a_is_content)
    f_check_file := (f_check_file)
    d_check_file := (PySem.W.fnOf "check_file" "check_file" (defArgs s_check_file) (defBody s_check_file) (defScope s_check_file) .none kV_check_file dc_check_file pm_check_file an_check_file cd_check_file ct_check_file)
    F_check_file := (fun_mk (st := s_check_file) l_check_file c_check_file k_check_file)
    b_check_file := ((fun_mk (st := s_check_file) l_check_file c_check_file k_check_file).binds (ps := P_check_file) fun _ _ _ _ _ _ us hl => match us, hl with | [_], _ => rfl)
    m_check_file := (PySem.W.mg_of X G a_check_file)
    f_are_steps := (f_are_steps)
    d_are_steps := (PySem.W.fnOf "are_steps" "are_steps" (defArgs s_are_steps) (defBody s_are_steps) (defScope s_are_steps) .none kV_are_steps dc_are_steps pm_are_steps an_are_steps cd_are_steps ct_are_steps)
    F_are_steps := (fun_mk (st := s_are_steps) l_are_steps c_are_steps k_are_steps)
    b_are_steps := ((fun_mk (st := s_are_steps) l_are_steps c_are_steps k_are_steps).binds (ps := P_are_steps) fun _ _ _ _ _ _ us hl => match us, hl with | [_], _ => rfl)
    m_are_steps := (PySem.W.mg_of X G a_are_steps)
    f_is_write := (f_is_write)
    d_is_write := (PySem.W.fnOf "is_write" "is_write" (defArgs s_is_write) (defBody s_is_write) (defScope s_is_write) .none kV_is_write dc_is_write pm_is_write an_is_write cd_is_write ct_is_write)
    F_is_write := (fun_mk (st := s_is_write) l_is_write c_is_write k_is_write)
    b_is_write := ((fun_mk (st := s_is_write) l_is_write c_is_write k_is_write).binds (ps := P_is_write) fun _ _ _ _ _ _ us hl => match us, hl with | [_, _], _ => rfl)
    m_is_write := (PySem.W.mg_of X G a_is_write)
    f_check_write := (f_check_write)
    d_check_write := (PySem.W.fnOf "check_write" "check_write" (defArgs s_check_write) (defBody s_check_write) (defScope s_check_write) .none kV_check_write dc_check_write pm_check_write an_check_write cd_check_write ct_check_write)
    F_check_write := (fun_mk (st := s_check_write) l_check_write c_check_write k_check_write)
    b_check_write := ((fun_mk (st := s_check_write) l_check_write c_check_write k_check_write).binds (ps := P_check_write) fun _ _ _ _ _ _ us hl => match us, hl with | [_, _], _ => rfl)
    m_check_write := (PySem.W.mg_of X G a_check_write)
    f_number_in := (f_number_in)
    d_number_in := (PySem.W.fnOf "number_in" "number_in" (defArgs s_number_in) (defBody s_number_in) (defScope s_number_in) .none kV_number_in dc_number_in pm_number_in an_number_in cd_number_in ct_number_in)
    F_number_in := (fun_mk (st := s_number_in) l_number_in c_number_in k_number_in)
    b_number_in := ((fun_mk (st := s_number_in) l_number_in c_number_in k_number_in).binds (ps := P_number_in) fun _ _ _ _ _ _ us hl => match us, hl with | [_], _ => rfl)
    m_number_in := (PySem.W.mg_of X G a_number_in)
    f_step_in := (f_step_in)
    d_step_in := (PySem.W.fnOf "step_in" "step_in" (defArgs s_step_in) (defBody s_step_in) (defScope s_step_in) .none kV_step_in dc_step_in pm_step_in an_step_in cd_step_in ct_step_in)
    F_step_in := (fun_mk (st := s_step_in) l_step_in c_step_in k_step_in)
    b_step_in := ((fun_mk (st := s_step_in) l_step_in c_step_in k_step_in).binds (ps := P_step_in) fun _ _ _ _ _ _ us hl => match us, hl with | [_], _ => rfl)
    m_step_in := (PySem.W.mg_of X G a_step_in)
    f_read_script := (f_read_script)
    d_read_script := (PySem.W.fnOf "read_script" "read_script" (defArgs s_read_script) (defBody s_read_script) (defScope s_read_script) .none kV_read_script dc_read_script pm_read_script an_read_script cd_read_script ct_read_script)
    F_read_script := (fun_mk (st := s_read_script) l_read_script c_read_script k_read_script)
    b_read_script := ((fun_mk (st := s_read_script) l_read_script c_read_script k_read_script).binds (ps := P_read_script) fun _ _ _ _ _ _ us hl => match us, hl with | [_], _ => rfl)
    m_read_script := (PySem.W.mg_of X G a_read_script)
    f_write_in := (f_write_in)
    d_write_in := (PySem.W.fnOf "write_in" "write_in" (defArgs s_write_in) (defBody s_write_in) (defScope s_write_in) .none kV_write_in dc_write_in pm_write_in an_write_in cd_write_in ct_write_in)
    F_write_in := (fun_mk (st := s_write_in) l_write_in c_write_in k_write_in)
    b_write_in := ((fun_mk (st := s_write_in) l_write_in c_write_in k_write_in).binds (ps := P_write_in) fun _ _ _ _ _ _ us hl => match us, hl with | [_, _], _ => rfl)
    m_write_in := (PySem.W.mg_of X G a_write_in)
    f_read_history := (f_read_history)
    d_read_history := (PySem.W.fnOf "read_history" "read_history" (defArgs s_read_history) (defBody s_read_history) (defScope s_read_history) .none kV_read_history dc_read_history pm_read_history an_read_history cd_read_history ct_read_history)
    F_read_history := (fun_mk (st := s_read_history) l_read_history c_read_history k_read_history)
    b_read_history := ((fun_mk (st := s_read_history) l_read_history c_read_history k_read_history).binds (ps := P_read_history) fun _ _ _ _ _ _ us hl => match us, hl with | [_], _ => rfl)
    m_read_history := (PySem.W.mg_of X G a_read_history)
    f_law_spring := (f_law_spring)
    d_law_spring := (PySem.W.fnOf "_law_spring" "_law_spring" (defArgs s_law_spring) (defBody s_law_spring) (defScope s_law_spring) .none kV_law_spring dc_law_spring pm_law_spring an_law_spring cd_law_spring ct_law_spring)
    F_law_spring := (fun_mk (st := s_law_spring) l_law_spring c_law_spring k_law_spring)
    b_law_spring := ((fun_mk (st := s_law_spring) l_law_spring c_law_spring k_law_spring).binds (ps := P_law_spring) fun _ _ _ _ _ _ us hl => match us, hl with | [_, _], _ => rfl)
    m_law_spring := (PySem.W.mg_of X G a_law_spring)
    f_law_sip := (f_law_sip)
    d_law_sip := (PySem.W.fnOf "_law_sip" "_law_sip" (defArgs s_law_sip) (defBody s_law_sip) (defScope s_law_sip) .none kV_law_sip dc_law_sip pm_law_sip an_law_sip cd_law_sip ct_law_sip)
    F_law_sip := (fun_mk (st := s_law_sip) l_law_sip c_law_sip k_law_sip)
    b_law_sip := ((fun_mk (st := s_law_sip) l_law_sip c_law_sip k_law_sip).binds (ps := P_law_sip) fun _ _ _ _ _ _ us hl => match us, hl with | [_, _], _ => rfl)
    m_law_sip := (PySem.W.mg_of X G a_law_sip)
    f_law_cells := (f_law_cells)
    d_law_cells := (PySem.W.fnOf "_law_cells" "_law_cells" (defArgs s_law_cells) (defBody s_law_cells) (defScope s_law_cells) .none kV_law_cells dc_law_cells pm_law_cells an_law_cells cd_law_cells ct_law_cells)
    F_law_cells := (fun_mk (st := s_law_cells) l_law_cells c_law_cells k_law_cells)
    b_law_cells := ((fun_mk (st := s_law_cells) l_law_cells c_law_cells k_law_cells).binds (ps := P_law_cells) fun _ _ _ _ _ _ us hl => match us, hl with | [_, _], _ => rfl)
    m_law_cells := (PySem.W.mg_of X G a_law_cells)
    f_law_text := (f_law_text)
    d_law_text := (PySem.W.fnOf "_law_text" "_law_text" (defArgs s_law_text) (defBody s_law_text) (defScope s_law_text) .none kV_law_text dc_law_text pm_law_text an_law_text cd_law_text ct_law_text)
    F_law_text := (fun_mk (st := s_law_text) l_law_text c_law_text k_law_text)
    b_law_text := ((fun_mk (st := s_law_text) l_law_text c_law_text k_law_text).binds (ps := P_law_text) fun _ _ _ _ _ _ us hl => match us, hl with | [_, _], _ => rfl)
    m_law_text := (PySem.W.mg_of X G a_law_text)
    f_law_writes := (f_law_writes)
    d_law_writes := (PySem.W.fnOf "_law_writes" "_law_writes" (defArgs s_law_writes) (defBody s_law_writes) (defScope s_law_writes) .none kV_law_writes dc_law_writes pm_law_writes an_law_writes cd_law_writes ct_law_writes)
    F_law_writes := (fun_mk (st := s_law_writes) l_law_writes c_law_writes k_law_writes)
    b_law_writes := ((fun_mk (st := s_law_writes) l_law_writes c_law_writes k_law_writes).binds (ps := P_law_writes) fun _ _ _ _ _ _ us hl => match us, hl with | [_, _, _], _ => rfl)
    m_law_writes := (PySem.W.mg_of X G a_law_writes)
    f_law_spot := (f_law_spot)
    d_law_spot := (PySem.W.fnOf "_law_spot" "_law_spot" (defArgs s_law_spot) (defBody s_law_spot) (defScope s_law_spot) .none kV_law_spot dc_law_spot pm_law_spot an_law_spot cd_law_spot ct_law_spot)
    F_law_spot := (fun_mk (st := s_law_spot) l_law_spot c_law_spot k_law_spot)
    b_law_spot := ((fun_mk (st := s_law_spot) l_law_spot c_law_spot k_law_spot).binds (ps := P_law_spot) fun _ _ _ _ _ _ us hl => match us, hl with | [_, _], _ => rfl)
    m_law_spot := (PySem.W.mg_of X G a_law_spot)
    f_law_steps := (f_law_steps)
    d_law_steps := (PySem.W.fnOf "_law_steps" "_law_steps" (defArgs s_law_steps) (defBody s_law_steps) (defScope s_law_steps) .none kV_law_steps dc_law_steps pm_law_steps an_law_steps cd_law_steps ct_law_steps)
    F_law_steps := (fun_mk (st := s_law_steps) l_law_steps c_law_steps k_law_steps)
    b_law_steps := ((fun_mk (st := s_law_steps) l_law_steps c_law_steps k_law_steps).binds (ps := P_law_steps) fun _ _ _ _ _ _ us hl => match us, hl with | [_], _ => rfl)
    m_law_steps := (PySem.W.mg_of X G a_law_steps)
    f_law_no_steps := (f_law_no_steps)
    d_law_no_steps := (PySem.W.fnOf "_law_no_steps" "_law_no_steps" (defArgs s_law_no_steps) (defBody s_law_no_steps) (defScope s_law_no_steps) .none kV_law_no_steps dc_law_no_steps pm_law_no_steps an_law_no_steps cd_law_no_steps ct_law_no_steps)
    F_law_no_steps := (fun_mk (st := s_law_no_steps) l_law_no_steps c_law_no_steps k_law_no_steps)
    b_law_no_steps := ((fun_mk (st := s_law_no_steps) l_law_no_steps c_law_no_steps k_law_no_steps).binds (ps := P_law_no_steps) fun _ _ _ _ _ _ us hl => match us, hl with | [_], _ => rfl)
    m_law_no_steps := (PySem.W.mg_of X G a_law_no_steps)
    f_law_no_writes := (f_law_no_writes)
    d_law_no_writes := (PySem.W.fnOf "_law_no_writes" "_law_no_writes" (defArgs s_law_no_writes) (defBody s_law_no_writes) (defScope s_law_no_writes) .none kV_law_no_writes dc_law_no_writes pm_law_no_writes an_law_no_writes cd_law_no_writes ct_law_no_writes)
    F_law_no_writes := (fun_mk (st := s_law_no_writes) l_law_no_writes c_law_no_writes k_law_no_writes)
    b_law_no_writes := ((fun_mk (st := s_law_no_writes) l_law_no_writes c_law_no_writes k_law_no_writes).binds (ps := P_law_no_writes) fun _ _ _ _ _ _ us hl => match us, hl with | [_], _ => rfl)
    m_law_no_writes := (PySem.W.mg_of X G a_law_no_writes)
    f_law_all_told := (f_law_all_told)
    d_law_all_told := (PySem.W.fnOf "_law_all_told" "_law_all_told" (defArgs s_law_all_told) (defBody s_law_all_told) (defScope s_law_all_told) .none kV_law_all_told dc_law_all_told pm_law_all_told an_law_all_told cd_law_all_told ct_law_all_told)
    F_law_all_told := (fun_mk (st := s_law_all_told) l_law_all_told c_law_all_told k_law_all_told)
    b_law_all_told := ((fun_mk (st := s_law_all_told) l_law_all_told c_law_all_told k_law_all_told).binds (ps := P_law_all_told) fun _ _ _ _ _ _ us hl => match us, hl with | [_, _, _, _, _], _ => rfl)
    m_law_all_told := (PySem.W.mg_of X G a_law_all_told)
    f_law := (f_law)
    d_law := (PySem.W.fnOf "law" "law" (defArgs s_law) (defBody s_law) (defScope s_law) .none kV_law dc_law pm_law an_law cd_law ct_law)
    F_law := (fun_mk (st := s_law) l_law c_law k_law)
    f_File_init := (f_File_init)
    d_File_init := (PySem.W.fnOf "__init__" "File.__init__" (defArgs s_File_init) (defBody s_File_init) (defScope s_File_init) (.ref T_File_init) kV_File_init dc_File_init pm_File_init an_File_init cd_File_init ct_File_init)
    F_File_init := (⟨⟨oc_File_init, od_File_init, (.ref T_File_init), kV_File_init, dc_File_init, pm_File_init, an_File_init, cd_File_init, ct_File_init, sl_File_init, rfl, l_File_init, c_File_init⟩, k_File_init⟩)
    b_File_init := (fun s us X hl => match us, hl with | [_, _], _ => BindsTo.of_defaults (T := T_File_init) rfl (X _ _ ld_File_init) rfl rfl rfl)
    f_File_len := (f_File_len)
    d_File_len := (PySem.W.fnOf "__len__" "File.__len__" (defArgs s_File_len) (defBody s_File_len) (defScope s_File_len) .none kV_File_len dc_File_len pm_File_len an_File_len cd_File_len ct_File_len)
    F_File_len := (fun_mk (st := s_File_len) l_File_len c_File_len k_File_len)
    b_File_len := ((fun_mk (st := s_File_len) l_File_len c_File_len k_File_len).binds (ps := P_File_len) fun _ _ _ _ _ _ us hl => match us, hl with | [_], _ => rfl)
    M_File_len := (⟨a_File_len, i_File_len, k_File_len⟩)
    f_Keep_init := (f_Keep_init)
    d_Keep_init := (PySem.W.fnOf "__init__" "Keep.__init__" (defArgs s_Keep_init) (defBody s_Keep_init) (defScope s_Keep_init) .none kV_Keep_init dc_Keep_init pm_Keep_init an_Keep_init cd_Keep_init ct_Keep_init)
    F_Keep_init := (fun_mk (st := s_Keep_init) l_Keep_init c_Keep_init k_Keep_init)
    b_Keep_init := ((fun_mk (st := s_Keep_init) l_Keep_init c_Keep_init k_Keep_init).binds (ps := P_Keep_init) fun _ _ _ _ _ _ us hl => match us, hl with | [_, _], _ => rfl)
    f_Lean_init := (f_Lean_init)
    d_Lean_init := (PySem.W.fnOf "__init__" "Lean.__init__" (defArgs s_Lean_init) (defBody s_Lean_init) (defScope s_Lean_init) .none kV_Lean_init dc_Lean_init pm_Lean_init an_Lean_init cd_Lean_init ct_Lean_init)
    F_Lean_init := (fun_mk (st := s_Lean_init) l_Lean_init c_Lean_init k_Lean_init)
    b_Lean_init := ((fun_mk (st := s_Lean_init) l_Lean_init c_Lean_init k_Lean_init).binds (ps := P_Lean_init) fun _ _ _ _ _ _ us hl => match us, hl with | [_, _], _ => rfl)
    f_Dig_init := (f_Dig_init)
    d_Dig_init := (PySem.W.fnOf "__init__" "Dig.__init__" (defArgs s_Dig_init) (defBody s_Dig_init) (defScope s_Dig_init) .none kV_Dig_init dc_Dig_init pm_Dig_init an_Dig_init cd_Dig_init ct_Dig_init)
    F_Dig_init := (fun_mk (st := s_Dig_init) l_Dig_init c_Dig_init k_Dig_init)
    b_Dig_init := ((fun_mk (st := s_Dig_init) l_Dig_init c_Dig_init k_Dig_init).binds (ps := P_Dig_init) fun _ _ _ _ _ _ us hl => match us, hl with | [_, _], _ => rfl)
    f_Script_init := (f_Script_init)
    d_Script_init := (PySem.W.fnOf "__init__" "Script.__init__" (defArgs s_Script_init) (defBody s_Script_init) (defScope s_Script_init) (.ref T_Script_init) kV_Script_init dc_Script_init pm_Script_init an_Script_init cd_Script_init ct_Script_init)
    F_Script_init := (⟨⟨oc_Script_init, od_Script_init, (.ref T_Script_init), kV_Script_init, dc_Script_init, pm_Script_init, an_Script_init, cd_Script_init, ct_Script_init, sl_Script_init, rfl, l_Script_init, c_Script_init⟩, k_Script_init⟩)
    b_Script_init := (fun s us X hl => match us, hl with | [_, _], _ => BindsTo.of_defaults (T := T_Script_init) rfl (X _ _ ld_Script_init) rfl rfl rfl)
    f_History_init := (f_History_init)
    d_History_init := (PySem.W.fnOf "__init__" "History.__init__" (defArgs s_History_init) (defBody s_History_init) (defScope s_History_init) (.ref T_History_init) kV_History_init dc_History_init pm_History_init an_History_init cd_History_init ct_History_init)
    F_History_init := (⟨⟨oc_History_init, od_History_init, (.ref T_History_init), kV_History_init, dc_History_init, pm_History_init, an_History_init, cd_History_init, ct_History_init, sl_History_init, rfl, l_History_init, c_History_init⟩, k_History_init⟩)
    b_History_init := (fun s us X hl => match us, hl with | [_, _, _], _ => BindsTo.of_defaults (T := T_History_init) rfl (X _ _ ld_History_init) rfl rfl rfl)
    b1_History_init := (fun s us X hl => match us, (show us.length = 2 by simpa using hl) with | [_, _], _ => BindsTo.of_defaults (T := T_History_init) rfl (X _ _ ld_History_init) rfl rfl rfl)
    f_History_iadd := (f_History_iadd)
    d_History_iadd := (PySem.W.fnOf "__iadd__" "History.__iadd__" (defArgs s_History_iadd) (defBody s_History_iadd) (defScope s_History_iadd) .none kV_History_iadd dc_History_iadd pm_History_iadd an_History_iadd cd_History_iadd ct_History_iadd)
    F_History_iadd := (fun_mk (st := s_History_iadd) l_History_iadd c_History_iadd k_History_iadd)
    b_History_iadd := ((fun_mk (st := s_History_iadd) l_History_iadd c_History_iadd k_History_iadd).binds (ps := P_History_iadd) fun _ _ _ _ _ _ us hl => match us, hl with | [_, _], _ => rfl)
    M_History_iadd := (⟨a_History_iadd, i_History_iadd, k_History_iadd⟩)
    L_File := (⟨⟨pg_File, hd_File, po_File, sa_File⟩, ha_File, ohn, otk, mr_File⟩)
    K_File := (⟨mk_File, a_File_init, i_File_init, kc_File⟩)
    A_File_row := (na_File_row)
    L_Full := (⟨⟨pg_Full, hd_Full, po_Full, sa_Full⟩, ha_Full, ohn, otk, mr_Full⟩)
    K_Full := (⟨mk_Full, ii_Full, kc_Full, mr_Full⟩)
    L_Keep := (⟨⟨pg_Keep, hd_Keep, po_Keep, sa_Keep⟩, ha_Keep, ohn, otk, mr_Keep⟩)
    K_Keep := (⟨mk_Keep, a_Keep_init, i_Keep_init, kc_Keep⟩)
    A_Keep_wide := (na_Keep_wide)
    L_Lean := (⟨⟨pg_Lean, hd_Lean, po_Lean, sa_Lean⟩, ha_Lean, ohn, otk, mr_Lean⟩)
    K_Lean := (⟨mk_Lean, a_Lean_init, i_Lean_init, kc_Lean⟩)
    A_Lean_wide := (na_Lean_wide)
    L_Dig := (⟨⟨pg_Dig, hd_Dig, po_Dig, sa_Dig⟩, ha_Dig, ohn, otk, mr_Dig⟩)
    K_Dig := (⟨mk_Dig, a_Dig_init, i_Dig_init, kc_Dig⟩)
    A_Dig_wide := (na_Dig_wide)
    L_Script := (⟨⟨pg_Script, hd_Script, po_Script, sa_Script⟩, ha_Script, ohn, otk, mr_Script⟩)
    K_Script := (⟨mk_Script, a_Script_init, i_Script_init, kc_Script⟩)
    A_Script_rows := (na_Script_rows)
    L_History := (⟨⟨pg_History, hd_History, po_History, sa_History⟩, ha_History, ohn, otk, mr_History⟩)
    K_History := (⟨mk_History, a_History_init, i_History_init, kc_History⟩)
    A_History_start := (na_History_start)
    A_History_rows := (na_History_rows)
    sf_History := (sf_History)
    s_File_File := (kit_self)
    si_File_str := (s_File_str)
    s_Full_Dig := (kit_rr2 ic_Dig tc_Dig ms_Full s_Full_Dig)
    s_Full_Full := (kit_self)
    s_Full_Keep := (kit_rr2 ic_Keep tc_Keep ms_Full s_Full_Keep)
    s_Full_Lean := (kit_rr2 ic_Lean tc_Lean ms_Full s_Full_Lean)
    s_Full_Step := (kit_rr2 ic_Step tc_Step ms_Full s_Full_Step)
    si_Full_str := (s_Full_str)
    s_Keep_Dig := (kit_rr2 ic_Dig tc_Dig ms_Keep s_Keep_Dig)
    s_Keep_Full := (kit_rr2 ic_Full tc_Full ms_Keep s_Keep_Full)
    s_Keep_Keep := (kit_self)
    s_Keep_Lean := (kit_rr2 ic_Lean tc_Lean ms_Keep s_Keep_Lean)
    s_Keep_Step := (kit_rr2 ic_Step tc_Step ms_Keep s_Keep_Step)
    si_Keep_str := (s_Keep_str)
    s_Lean_Dig := (kit_rr2 ic_Dig tc_Dig ms_Lean s_Lean_Dig)
    s_Lean_Full := (kit_rr2 ic_Full tc_Full ms_Lean s_Lean_Full)
    s_Lean_Keep := (kit_rr2 ic_Keep tc_Keep ms_Lean s_Lean_Keep)
    s_Lean_Lean := (kit_self)
    s_Lean_Step := (kit_rr2 ic_Step tc_Step ms_Lean s_Lean_Step)
    si_Lean_str := (s_Lean_str)
    s_Dig_Dig := (kit_self)
    s_Dig_Full := (kit_rr2 ic_Full tc_Full ms_Dig s_Dig_Full)
    s_Dig_Keep := (kit_rr2 ic_Keep tc_Keep ms_Dig s_Dig_Keep)
    s_Dig_Lean := (kit_rr2 ic_Lean tc_Lean ms_Dig s_Dig_Lean)
    s_Dig_Step := (kit_rr2 ic_Step tc_Step ms_Dig s_Dig_Step)
    si_Dig_str := (s_Dig_str)
    si_Script_str := (s_Script_str)
    s_History_File := (kit_rr2 ic_File tc_File ms_History s_History_File)
    s_History_History := (kit_self)
    si_History_str := (s_History_str)
    C_InvalidFile := (C_InvalidFile)
    I_InvalidFile := (I_InvalidFile)
    mc_InvalidFile := (PySem.W.mg_of X G ac_InvalidFile)
    S_InvalidFile := ({ T := ⟨⟨nm_InvalidFile, q_InvalidFile, NN_InvalidFile, bs_InvalidFile, _, sn_InvalidFile, sub_InvalidFile, ab_InvalidFile, col_InvalidFile, dd_InvalidFile, m0_InvalidFile, m1_InvalidFile, m2_InvalidFile, m3_InvalidFile, m5_InvalidFile, xL_InvalidFile, by first | rfl | decide +kernel⟩, sa_InvalidFile, eC_InvalidFile, tC_InvalidFile, kC_InvalidFile⟩, iC := i_InvalidFile, tI := t_InvalidFile, nf := nb_InvalidFile, al := al_InvalidFile, sV := sV_InvalidFile, sC := sC_InvalidFile, op := zop, tp := by decide +kernel, ne := by decide, nd := by decide, fn := ⟨oc_InvalidFile, od_InvalidFile, sl_InvalidFile, "__init__", "InvalidFile.__init__", defArgs si_InvalidFile, defScope si_InvalidFile, .ref T_InvalidFile, kV_InvalidFile, dc_InvalidFile, pm_InvalidFile, an_InvalidFile, cda_InvalidFile, ct_InvalidFile, cc_InvalidFile, ⟨10, 8, 10, 13⟩, ⟨10, 8, 10, 15⟩, ⟨10, 8, 10, 24⟩, ⟨10, 25, 10, 30⟩, ⟨10, 8, 10, 31⟩, ⟨10, 8, 10, 31⟩, ⟨11, 8, 11, 12⟩, ⟨11, 8, 11, 18⟩, ⟨11, 21, 11, 26⟩, ⟨11, 8, 11, 26⟩, { arg := "self", annotation := none, pos := ⟨9, 17, 9, 21⟩ }, ccl_InvalidFile, cdd_InvalidFile, vs_InvalidFile, ccs_InvalidFile, file_InvalidFile, tf_InvalidFile, cl_InvalidFile, cld_InvalidFile, csl_InvalidFile, l_InvalidFile, cd_InvalidFile, by rfl, by rfl, by rfl, by rfl, by rfl, by decide +kernel, by rfl, by rfl, by rfl, by rfl, cr_InvalidFile, v2_InvalidFile, fl_InvalidFile, clc_InvalidFile, (fun s us X hl => match us, hl with | [_, _], _ => BindsTo.of_defaults (T := T_InvalidFile) rfl (X _ _ ld_InvalidFile) rfl rfl rfl), fun _ => ⟨_, rfl⟩⟩ })
    C_InvalidNumber := (C_InvalidNumber)
    I_InvalidNumber := (I_InvalidNumber)
    mc_InvalidNumber := (PySem.W.mg_of X G ac_InvalidNumber)
    S_InvalidNumber := ({ T := ⟨⟨nm_InvalidNumber, q_InvalidNumber, NN_InvalidNumber, bs_InvalidNumber, _, sn_InvalidNumber, sub_InvalidNumber, ab_InvalidNumber, col_InvalidNumber, dd_InvalidNumber, m0_InvalidNumber, m1_InvalidNumber, m2_InvalidNumber, m3_InvalidNumber, m5_InvalidNumber, xL_InvalidNumber, by first | rfl | decide +kernel⟩, sa_InvalidNumber, eC_InvalidNumber, tC_InvalidNumber, kC_InvalidNumber⟩, iC := i_InvalidNumber, tI := t_InvalidNumber, nf := nb_InvalidNumber, al := al_InvalidNumber, sV := sV_InvalidNumber, sC := sC_InvalidNumber, op := zop, tp := by decide +kernel, ne := by decide, nd := by decide, fn := ⟨oc_InvalidNumber, od_InvalidNumber, sl_InvalidNumber, "__init__", "InvalidNumber.__init__", defArgs si_InvalidNumber, defScope si_InvalidNumber, .ref T_InvalidNumber, kV_InvalidNumber, dc_InvalidNumber, pm_InvalidNumber, an_InvalidNumber, cda_InvalidNumber, ct_InvalidNumber, cc_InvalidNumber, ⟨15, 8, 15, 13⟩, ⟨15, 8, 15, 15⟩, ⟨15, 8, 15, 24⟩, ⟨15, 25, 15, 30⟩, ⟨15, 8, 15, 31⟩, ⟨15, 8, 15, 31⟩, ⟨16, 8, 16, 12⟩, ⟨16, 8, 16, 18⟩, ⟨16, 21, 16, 26⟩, ⟨16, 8, 16, 26⟩, { arg := "self", annotation := none, pos := ⟨14, 17, 14, 21⟩ }, ccl_InvalidNumber, cdd_InvalidNumber, vs_InvalidNumber, ccs_InvalidNumber, file_InvalidNumber, tf_InvalidNumber, cl_InvalidNumber, cld_InvalidNumber, csl_InvalidNumber, l_InvalidNumber, cd_InvalidNumber, by rfl, by rfl, by rfl, by rfl, by rfl, by decide +kernel, by rfl, by rfl, by rfl, by rfl, cr_InvalidNumber, v2_InvalidNumber, fl_InvalidNumber, clc_InvalidNumber, (fun s us X hl => match us, hl with | [_, _], _ => BindsTo.of_defaults (T := T_InvalidNumber) rfl (X _ _ ld_InvalidNumber) rfl rfl rfl), fun _ => ⟨_, rfl⟩⟩ })
    C_InvalidScript := (C_InvalidScript)
    C_InvalidList := (C_InvalidList)
    C_InvalidWrite := (C_InvalidWrite)
    I_InvalidWrite := (I_InvalidWrite)
    mc_InvalidWrite := (PySem.W.mg_of X G ac_InvalidWrite)
    S_InvalidWrite := ({ T := ⟨⟨nm_InvalidWrite, q_InvalidWrite, NN_InvalidWrite, bs_InvalidWrite, _, sn_InvalidWrite, sub_InvalidWrite, ab_InvalidWrite, col_InvalidWrite, dd_InvalidWrite, m0_InvalidWrite, m1_InvalidWrite, m2_InvalidWrite, m3_InvalidWrite, m5_InvalidWrite, xL_InvalidWrite, by first | rfl | decide +kernel⟩, sa_InvalidWrite, eC_InvalidWrite, tC_InvalidWrite, kC_InvalidWrite⟩, iC := i_InvalidWrite, tI := t_InvalidWrite, nf := nb_InvalidWrite, al := al_InvalidWrite, sV := sV_InvalidWrite, sC := sC_InvalidWrite, op := zop, tp := by decide +kernel, ne := by decide, nd := by decide, fn := ⟨oc_InvalidWrite, od_InvalidWrite, sl_InvalidWrite, "__init__", "InvalidWrite.__init__", defArgs si_InvalidWrite, defScope si_InvalidWrite, .ref T_InvalidWrite, kV_InvalidWrite, dc_InvalidWrite, pm_InvalidWrite, an_InvalidWrite, cda_InvalidWrite, ct_InvalidWrite, cc_InvalidWrite, ⟨30, 8, 30, 13⟩, ⟨30, 8, 30, 15⟩, ⟨30, 8, 30, 24⟩, ⟨30, 25, 30, 30⟩, ⟨30, 8, 30, 31⟩, ⟨30, 8, 30, 31⟩, ⟨31, 8, 31, 12⟩, ⟨31, 8, 31, 18⟩, ⟨31, 21, 31, 26⟩, ⟨31, 8, 31, 26⟩, { arg := "self", annotation := none, pos := ⟨29, 17, 29, 21⟩ }, ccl_InvalidWrite, cdd_InvalidWrite, vs_InvalidWrite, ccs_InvalidWrite, file_InvalidWrite, tf_InvalidWrite, cl_InvalidWrite, cld_InvalidWrite, csl_InvalidWrite, l_InvalidWrite, cd_InvalidWrite, by rfl, by rfl, by rfl, by rfl, by rfl, by decide +kernel, by rfl, by rfl, by rfl, by rfl, cr_InvalidWrite, v2_InvalidWrite, fl_InvalidWrite, clc_InvalidWrite, (fun s us X hl => match us, hl with | [_, _], _ => BindsTo.of_defaults (T := T_InvalidWrite) rfl (X _ _ ld_InvalidWrite) rfl rfl rfl), fun _ => ⟨_, rfl⟩⟩ })
    C_InvalidText := (C_InvalidText)
    I_InvalidText := (I_InvalidText)
    mc_InvalidText := (PySem.W.mg_of X G ac_InvalidText)
    S_InvalidText := ({ T := ⟨⟨nm_InvalidText, q_InvalidText, NN_InvalidText, bs_InvalidText, _, sn_InvalidText, sub_InvalidText, ab_InvalidText, col_InvalidText, dd_InvalidText, m0_InvalidText, m1_InvalidText, m2_InvalidText, m3_InvalidText, m5_InvalidText, xL_InvalidText, by first | rfl | decide +kernel⟩, sa_InvalidText, eC_InvalidText, tC_InvalidText, kC_InvalidText⟩, iC := i_InvalidText, tI := t_InvalidText, nf := nb_InvalidText, al := al_InvalidText, sV := sV_InvalidText, sC := sC_InvalidText, op := zop, tp := by decide +kernel, ne := by decide, nd := by decide, fn := ⟨oc_InvalidText, od_InvalidText, sl_InvalidText, "__init__", "InvalidText.__init__", defArgs si_InvalidText, defScope si_InvalidText, .ref T_InvalidText, kV_InvalidText, dc_InvalidText, pm_InvalidText, an_InvalidText, cda_InvalidText, ct_InvalidText, cc_InvalidText, ⟨35, 8, 35, 13⟩, ⟨35, 8, 35, 15⟩, ⟨35, 8, 35, 24⟩, ⟨35, 25, 35, 29⟩, ⟨35, 8, 35, 30⟩, ⟨35, 8, 35, 30⟩, ⟨36, 8, 36, 12⟩, ⟨36, 8, 36, 17⟩, ⟨36, 20, 36, 24⟩, ⟨36, 8, 36, 24⟩, { arg := "self", annotation := none, pos := ⟨34, 17, 34, 21⟩ }, ccl_InvalidText, cdd_InvalidText, vs_InvalidText, ccs_InvalidText, file_InvalidText, tf_InvalidText, cl_InvalidText, cld_InvalidText, csl_InvalidText, l_InvalidText, cd_InvalidText, by rfl, by rfl, by rfl, by rfl, by rfl, by decide +kernel, by rfl, by rfl, by rfl, by rfl, cr_InvalidText, v2_InvalidText, fl_InvalidText, clc_InvalidText, (fun s us X hl => match us, hl with | [_, _], _ => BindsTo.of_defaults (T := T_InvalidText) rfl (X _ _ ld_InvalidText) rfl rfl rfl), fun _ => ⟨_, rfl⟩⟩ })
    x_InvalidText := (⟨ga_InvalidText, gg_InvalidText, eC_InvalidText, hC_InvalidText⟩)
    e_InvalidText_InvalidText := (exm_of eC_InvalidText iC_InvalidText tC_InvalidText s_InvalidText_InvalidText)
    e_InvalidFile_InvalidText := (exm_of eC_InvalidText iC_InvalidText tC_InvalidText s_InvalidFile_InvalidText)
    e_InvalidNumber_InvalidText := (exm_of eC_InvalidText iC_InvalidText tC_InvalidText s_InvalidNumber_InvalidText)
    e_InvalidScript_InvalidText := (exm_of eC_InvalidText iC_InvalidText tC_InvalidText s_InvalidScript_InvalidText)
    e_InvalidList_InvalidText := (exm_of eC_InvalidText iC_InvalidText tC_InvalidText s_InvalidList_InvalidText)
    e_InvalidWrite_InvalidText := (exm_of eC_InvalidText iC_InvalidText tC_InvalidText s_InvalidWrite_InvalidText) }
  exact ⟨R.d_law, fun s v => .of_eq rfl, fun base _ _ => ok_law R⟩
theorem walk {q : Program} {loose : List Str} {XP : (Str → Option Value) → Heap → Prop} {YP : World → Heap → Prop} {d : DefRec} {K : Params → Frag} (hdf : d.params.defaults = [])
    (hY : ∀ (w : World) (h : Heap), YP w h → (K w.params).In h)
    (F : ∀ (w : World) (mg : Str → Option Value) (fa : Addr) (h : Heap), (K w.params).In h → h.Ns mainGlobals mg → mg d.name = some (.ref fa) →
      ∃ fd : FuncData, (∀ (s : Shared) (u : Value), BindsTo s fd ⟨[u], []⟩ [("script", u)]) ∧ ∀ base : Heap, (K w.params).In base → base.Ns mainGlobals mg → FnOk PySem.Challenge.rw_keptholes_k81_texts_that_are_none.prog w (K w.params) mg base CX0 9 fa fd ["script"] (toSp (K w.params) spLaw)) :
    PySem.W.WalkO q loose XP YP PySem.Challenge.rw_keptholes_k81_texts_that_are_none.row.toRowW d [] (fun f vs => PySem.call f vs) :=
  L2.walk_of (l := PySem.Challenge.rw_keptholes_k81_texts_that_are_none) (n := 63) (k := 9) (x := "script") (CX := fun _ => CX0) (sp := fun w => toSp (K w.params) spLaw) rfl (by decide) hdf ⟨rfl, by decide, by decide⟩ hY F
    (fun w H a ns hl _ hS => law_sp hl hS) fun _ _ _ _ _ z => z
end Kh
open PySem PySem.W PyProof.Rows in
set_option maxRecDepth 100000 in
set_option maxHeartbeats 0 in
theorem PySem.Challenge.cw_keptholes_k81_texts_that_are_none_holds : PySem.Challenge.rw_keptholes_k81_texts_that_are_none.Holds := by
  w_on; o_law; k_headL; (case hw => w_witness2)
  as_aux_lemma =>
    k_fill
    refine Kh.walk rfl (fun w h Y => PySem.W.kIn_of Y) ?F
    case F =>
      intro w mg fa h KX G hmg
      refine' Kh.all_mk KX G hmg ?z_bool ?z_enumerate ?z_int ?z_isinstance ?z_len ?z_list ?z_min ?z_range ?z_str ?z_super ?z_tuple ?g_SIGNS ?g_DIGITS ?ac_File ?ac_Step ?ac_Full ?ac_Keep ?ac_Lean ?ac_Dig ?ac_Script ?ac_History ?a_is_whole ?l_is_whole ?c_is_whole ?k_is_whole ?a_check_least ?l_check_least ?c_check_least ?k_check_least ?a_are_cells ?l_are_cells ?c_are_cells ?k_are_cells ?a_is_content ?l_is_content ?c_is_content ?k_is_content ?a_check_file ?l_check_file ?c_check_file ?k_check_file ?a_are_steps ?l_are_steps ?c_are_steps ?k_are_steps ?a_is_write ?l_is_write ?c_is_write ?k_is_write ?a_check_write ?l_check_write ?c_check_write ?k_check_write ?a_number_in ?l_number_in ?c_number_in ?k_number_in ?a_step_in ?l_step_in ?c_step_in ?k_step_in ?a_read_script ?l_read_script ?c_read_script ?k_read_script ?a_write_in ?l_write_in ?c_write_in ?k_write_in ?a_read_history ?l_read_history ?c_read_history ?k_read_history ?a_law_spring ?l_law_spring ?c_law_spring ?k_law_spring ?a_law_sip ?l_law_sip ?c_law_sip ?k_law_sip ?a_law_cells ?l_law_cells ?c_law_cells ?k_law_cells ?a_law_text ?l_law_text ?c_law_text ?k_law_text ?a_law_writes ?l_law_writes ?c_law_writes ?k_law_writes ?a_law_spot ?l_law_spot ?c_law_spot ?k_law_spot ?a_law_steps ?l_law_steps ?c_law_steps ?k_law_steps ?a_law_no_steps ?l_law_no_steps ?c_law_no_steps ?k_law_no_steps ?a_law_no_writes ?l_law_no_writes ?c_law_no_writes ?k_law_no_writes ?a_law_all_told ?l_law_all_told ?c_law_all_told ?k_law_all_told ?a_law ?l_law ?c_law ?k_law ?a_File_init ?i_File_init ?l_File_init ?c_File_init ?k_File_init ?ld_File_init ?a_File_len ?i_File_len ?l_File_len ?c_File_len ?k_File_len ?a_Keep_init ?i_Keep_init ?l_Keep_init ?c_Keep_init ?k_Keep_init ?a_Lean_init ?i_Lean_init ?l_Lean_init ?c_Lean_init ?k_Lean_init ?a_Dig_init ?i_Dig_init ?l_Dig_init ?c_Dig_init ?k_Dig_init ?a_Script_init ?i_Script_init ?l_Script_init ?c_Script_init ?k_Script_init ?ld_Script_init ?a_History_init ?i_History_init ?l_History_init ?c_History_init ?k_History_init ?ld_History_init ?a_History_iadd ?i_History_iadd ?l_History_iadd ?c_History_iadd ?k_History_iadd ?ohn ?otk ?pg_File ?hd_File ?po_File ?sa_File ?ha_File ?mr_File ?mk_File ?kc_File ?na_File_row ?pg_Full ?hd_Full ?po_Full ?sa_Full ?ha_Full ?mr_Full ?ms_Full ?mk_Full ?kc_Full ?ii_Full ?pg_Keep ?hd_Keep ?po_Keep ?sa_Keep ?ha_Keep ?mr_Keep ?ms_Keep ?mk_Keep ?kc_Keep ?na_Keep_wide ?pg_Lean ?hd_Lean ?po_Lean ?sa_Lean ?ha_Lean ?mr_Lean ?ms_Lean ?mk_Lean ?kc_Lean ?na_Lean_wide ?pg_Dig ?hd_Dig ?po_Dig ?sa_Dig ?ha_Dig ?mr_Dig ?ms_Dig ?mk_Dig ?kc_Dig ?na_Dig_wide ?pg_Script ?hd_Script ?po_Script ?sa_Script ?ha_Script ?mr_Script ?mk_Script ?kc_Script ?na_Script_rows ?pg_History ?hd_History ?po_History ?sa_History ?ha_History ?mr_History ?ms_History ?mk_History ?kc_History ?na_History_start ?na_History_rows ?ic_Dig ?tc_Dig ?ic_File ?tc_File ?ic_Full ?tc_Full ?ic_Keep ?tc_Keep ?ic_Lean ?tc_Lean ?ic_Step ?tc_Step ?sf_History ?s_File_str ?s_Full_Dig ?s_Full_Keep ?s_Full_Lean ?s_Full_Step ?s_Full_str ?s_Keep_Dig ?s_Keep_Full ?s_Keep_Lean ?s_Keep_Step ?s_Keep_str ?s_Lean_Dig ?s_Lean_Full ?s_Lean_Keep ?s_Lean_Step ?s_Lean_str ?s_Dig_Full ?s_Dig_Keep ?s_Dig_Lean ?s_Dig_Step ?s_Dig_str ?s_Script_str ?s_History_File ?s_History_str ?zop ?ac_InvalidFile ?ac_HoleError ?xL_InvalidFile ?sa_InvalidFile ?nb_InvalidFile ?i_InvalidFile ?t_InvalidFile ?l_InvalidFile ?ld_InvalidFile ?cd_InvalidFile ?cr_InvalidFile ?v2_InvalidFile ?fl_InvalidFile ?clc_InvalidFile ?al_InvalidFile ?sV_InvalidFile ?eC_InvalidFile ?sC_InvalidFile ?kC_InvalidFile ?tC_InvalidFile ?ac_InvalidNumber ?xL_InvalidNumber ?sa_InvalidNumber ?nb_InvalidNumber ?i_InvalidNumber ?t_InvalidNumber ?l_InvalidNumber ?ld_InvalidNumber ?cd_InvalidNumber ?cr_InvalidNumber ?v2_InvalidNumber ?fl_InvalidNumber ?clc_InvalidNumber ?al_InvalidNumber ?sV_InvalidNumber ?eC_InvalidNumber ?sC_InvalidNumber ?kC_InvalidNumber ?tC_InvalidNumber ?ac_InvalidScript ?ac_InvalidList ?ac_InvalidWrite ?xL_InvalidWrite ?sa_InvalidWrite ?nb_InvalidWrite ?i_InvalidWrite ?t_InvalidWrite ?l_InvalidWrite ?ld_InvalidWrite ?cd_InvalidWrite ?cr_InvalidWrite ?v2_InvalidWrite ?fl_InvalidWrite ?clc_InvalidWrite ?al_InvalidWrite ?sV_InvalidWrite ?eC_InvalidWrite ?sC_InvalidWrite ?kC_InvalidWrite ?tC_InvalidWrite ?ac_InvalidText ?xL_InvalidText ?sa_InvalidText ?ga_InvalidText ?gg_InvalidText ?nb_InvalidText ?i_InvalidText ?t_InvalidText ?l_InvalidText ?ld_InvalidText ?cd_InvalidText ?cr_InvalidText ?v2_InvalidText ?fl_InvalidText ?clc_InvalidText ?al_InvalidText ?sV_InvalidText ?eC_InvalidText ?sC_InvalidText ?kC_InvalidText ?tC_InvalidText ?hC_InvalidText ?iC_InvalidText ?s_InvalidText_InvalidText ?s_InvalidFile_InvalidText ?s_InvalidNumber_InvalidText ?s_InvalidScript_InvalidText ?s_InvalidList_InvalidText ?s_InvalidWrite_InvalidText

      (case z_bool => k_is)
      (case z_enumerate => k_is)
      (case z_int => k_is)
      (case z_isinstance => k_is)
      (case z_len => k_is)
      (case z_list => k_is)
      (case z_min => k_is)
      (case z_range => k_is)
      (case z_str => k_is)
      (case z_super => k_is)
      (case z_tuple => k_is)
      (case g_SIGNS => k_is)
      (case g_DIGITS => k_is)
      (case ac_File => k_is)
      (case ac_Step => k_is)
      (case ac_Full => k_is)
      (case ac_Keep => k_is)
      (case ac_Lean => k_is)
      (case ac_Dig => k_is)
      (case ac_Script => k_is)
      (case ac_History => k_is)
      (case a_is_whole => k_is)
      (case l_is_whole => k_is)
      (case c_is_whole => k_is)
      (case k_is_whole => k_is)
      (case a_check_least => k_is)
      (case l_check_least => k_is)
      (case c_check_least => k_is)
      (case k_check_least => k_is)
      (case a_are_cells => k_is)
      (case l_are_cells => k_is)
      (case c_are_cells => k_is)
      (case k_are_cells => k_is)
      (case a_is_content => k_is)
      (case l_is_content => k_is)
      (case c_is_content => k_is)
      (case k_is_content => k_is)
      (case a_check_file => k_is)
      (case l_check_file => k_is)
      (case c_check_file => k_is)
      (case k_check_file => k_is)
      (case a_are_steps => k_is)
      (case l_are_steps => k_is)
      (case c_are_steps => k_is)
      (case k_are_steps => k_is)
      (case a_is_write => k_is)
      (case l_is_write => k_is)
      (case c_is_write => k_is)
      (case k_is_write => k_is)
      (case a_check_write => k_is)
      (case l_check_write => k_is)
      (case c_check_write => k_is)
      (case k_check_write => k_is)
      (case a_number_in => k_is)
      (case l_number_in => k_is)
      (case c_number_in => k_is)
      (case k_number_in => k_is)
      (case a_step_in => k_is)
      (case l_step_in => k_is)
      (case c_step_in => k_is)
      (case k_step_in => k_is)
      (case a_read_script => k_is)
      (case l_read_script => k_is)
      (case c_read_script => k_is)
      (case k_read_script => k_is)
      (case a_write_in => k_is)
      (case l_write_in => k_is)
      (case c_write_in => k_is)
      (case k_write_in => k_is)
      (case a_read_history => k_is)
      (case l_read_history => k_is)
      (case c_read_history => k_is)
      (case k_read_history => k_is)
      (case a_law_spring => k_is)
      (case l_law_spring => k_is)
      (case c_law_spring => k_is)
      (case k_law_spring => k_is)
      (case a_law_sip => k_is)
      (case l_law_sip => k_is)
      (case c_law_sip => k_is)
      (case k_law_sip => k_is)
      (case a_law_cells => k_is)
      (case l_law_cells => k_is)
      (case c_law_cells => k_is)
      (case k_law_cells => k_is)
      (case a_law_text => k_is)
      (case l_law_text => k_is)
      (case c_law_text => k_is)
      (case k_law_text => k_is)
      (case a_law_writes => k_is)
      (case l_law_writes => k_is)
      (case c_law_writes => k_is)
      (case k_law_writes => k_is)
      (case a_law_spot => k_is)
      (case l_law_spot => k_is)
      (case c_law_spot => k_is)
      (case k_law_spot => k_is)
      (case a_law_steps => k_is)
      (case l_law_steps => k_is)
      (case c_law_steps => k_is)
      (case k_law_steps => k_is)
      (case a_law_no_steps => k_is)
      (case l_law_no_steps => k_is)
      (case c_law_no_steps => k_is)
      (case k_law_no_steps => k_is)
      (case a_law_no_writes => k_is)
      (case l_law_no_writes => k_is)
      (case c_law_no_writes => k_is)
      (case k_law_no_writes => k_is)
      (case a_law_all_told => k_is)
      (case l_law_all_told => k_is)
      (case c_law_all_told => k_is)
      (case k_law_all_told => k_is)
      (case a_law => k_is)
      (case l_law => k_is)
      (case c_law => k_is)
      (case k_law => k_is)
      (case a_File_init => k_is)
      (case i_File_init => k_is)
      (case l_File_init => k_is)
      (case c_File_init => k_is)
      (case k_File_init => k_is)
      (case ld_File_init => k_is)
      (case a_File_len => k_is)
      (case i_File_len => k_is)
      (case l_File_len => k_is)
      (case c_File_len => k_is)
      (case k_File_len => k_is)
      (case a_Keep_init => k_is)
      (case i_Keep_init => k_is)
      (case l_Keep_init => k_is)
      (case c_Keep_init => k_is)
      (case k_Keep_init => k_is)
      (case a_Lean_init => k_is)
      (case i_Lean_init => k_is)
      (case l_Lean_init => k_is)
      (case c_Lean_init => k_is)
      (case k_Lean_init => k_is)
      (case a_Dig_init => k_is)
      (case i_Dig_init => k_is)
      (case l_Dig_init => k_is)
      (case c_Dig_init => k_is)
      (case k_Dig_init => k_is)
      (case a_Script_init => k_is)
      (case i_Script_init => k_is)
      (case l_Script_init => k_is)
      (case c_Script_init => k_is)
      (case k_Script_init => k_is)
      (case ld_Script_init => k_is)
      (case a_History_init => k_is)
      (case i_History_init => k_is)
      (case l_History_init => k_is)
      (case c_History_init => k_is)
      (case k_History_init => k_is)
      (case ld_History_init => k_is)
      (case a_History_iadd => k_is)
      (case i_History_iadd => k_is)
      (case l_History_iadd => k_is)
      (case c_History_iadd => k_is)
      (case k_History_iadd => k_is)
      (case ohn => first | k_is | rfl | kernel_rfl)
      (case otk => first | k_is | rfl | kernel_rfl)
      (case pg_File => k_is)
      (case hd_File => k_is)
      (case po_File => k_is)
      (case sa_File => k_is)
      (case ha_File => k_is)
      (case mr_File => first | k_is | kernel_rfl | rfl)
      (case mk_File => k_is)
      (case kc_File => k_is)
      (case na_File_row => k_is)
      (case pg_Full => k_is)
      (case hd_Full => k_is)
      (case po_Full => k_is)
      (case sa_Full => k_is)
      (case ha_Full => k_is)
      (case mr_Full => first | k_is | kernel_rfl | rfl)
      (case ms_Full => first | k_is | kernel_rfl | rfl)
      (case mk_Full => k_is)
      (case kc_Full => k_is)
      (case ii_Full => k_is)
      (case pg_Keep => k_is)
      (case hd_Keep => k_is)
      (case po_Keep => k_is)
      (case sa_Keep => k_is)
      (case ha_Keep => k_is)
      (case mr_Keep => first | k_is | kernel_rfl | rfl)
      (case ms_Keep => first | k_is | kernel_rfl | rfl)
      (case mk_Keep => k_is)
      (case kc_Keep => k_is)
      (case na_Keep_wide => k_is)
      (case pg_Lean => k_is)
      (case hd_Lean => k_is)
      (case po_Lean => k_is)
      (case sa_Lean => k_is)
      (case ha_Lean => k_is)
      (case mr_Lean => first | k_is | kernel_rfl | rfl)
      (case ms_Lean => first | k_is | kernel_rfl | rfl)
      (case mk_Lean => k_is)
      (case kc_Lean => k_is)
      (case na_Lean_wide => k_is)
      (case pg_Dig => k_is)
      (case hd_Dig => k_is)
      (case po_Dig => k_is)
      (case sa_Dig => k_is)
      (case ha_Dig => k_is)
      (case mr_Dig => first | k_is | kernel_rfl | rfl)
      (case ms_Dig => first | k_is | kernel_rfl | rfl)
      (case mk_Dig => k_is)
      (case kc_Dig => k_is)
      (case na_Dig_wide => k_is)
      (case pg_Script => k_is)
      (case hd_Script => k_is)
      (case po_Script => k_is)
      (case sa_Script => k_is)
      (case ha_Script => k_is)
      (case mr_Script => first | k_is | kernel_rfl | rfl)
      (case mk_Script => k_is)
      (case kc_Script => k_is)
      (case na_Script_rows => k_is)
      (case pg_History => k_is)
      (case hd_History => k_is)
      (case po_History => k_is)
      (case sa_History => k_is)
      (case ha_History => k_is)
      (case mr_History => first | k_is | kernel_rfl | rfl)
      (case ms_History => first | k_is | kernel_rfl | rfl)
      (case mk_History => k_is)
      (case kc_History => k_is)
      (case na_History_start => k_is)
      (case na_History_rows => k_is)
      (case ic_Dig => k_is)
      (case tc_Dig => k_is)
      (case ic_File => k_is)
      (case tc_File => k_is)
      (case ic_Full => k_is)
      (case tc_Full => k_is)
      (case ic_Keep => k_is)
      (case tc_Keep => k_is)
      (case ic_Lean => k_is)
      (case tc_Lean => k_is)
      (case ic_Step => k_is)
      (case tc_Step => k_is)
      (case sf_History => first | k_is | kernel_rfl | rfl)
      (case s_File_str => k_is)
      (case s_Full_Dig => k_is)
      (case s_Full_Keep => k_is)
      (case s_Full_Lean => k_is)
      (case s_Full_Step => k_is)
      (case s_Full_str => k_is)
      (case s_Keep_Dig => k_is)
      (case s_Keep_Full => k_is)
      (case s_Keep_Lean => k_is)
      (case s_Keep_Step => k_is)
      (case s_Keep_str => k_is)
      (case s_Lean_Dig => k_is)
      (case s_Lean_Full => k_is)
      (case s_Lean_Keep => k_is)
      (case s_Lean_Step => k_is)
      (case s_Lean_str => k_is)
      (case s_Dig_Full => k_is)
      (case s_Dig_Keep => k_is)
      (case s_Dig_Lean => k_is)
      (case s_Dig_Step => k_is)
      (case s_Dig_str => k_is)
      (case s_Script_str => k_is)
      (case s_History_File => k_is)
      (case s_History_str => k_is)
      (case zop => k_is)
      (case ac_InvalidFile => k_is)
      (case ac_HoleError => k_is)
      (case xL_InvalidFile => k_is)
      (case sa_InvalidFile => k_is)
      (case nb_InvalidFile => k_is)
      (case i_InvalidFile => k_is)
      (case t_InvalidFile => k_is)
      (case l_InvalidFile => k_is)
      (case ld_InvalidFile => k_is)
      (case cd_InvalidFile => k_is)
      (case cr_InvalidFile => k_is)
      (case v2_InvalidFile => rfl)
      (case fl_InvalidFile => first | rfl | decide +kernel)
      (case clc_InvalidFile => k_is)
      (case al_InvalidFile => first | k_is | ks_is | kernel_rfl)
      (case sV_InvalidFile => k_is)
      (case eC_InvalidFile => k_is)
      (case sC_InvalidFile => first | k_is | kernel_rfl | rfl)
      (case kC_InvalidFile => k_is)
      (case tC_InvalidFile => k_is)
      (case ac_InvalidNumber => k_is)
      (case xL_InvalidNumber => k_is)
      (case sa_InvalidNumber => k_is)
      (case nb_InvalidNumber => k_is)
      (case i_InvalidNumber => k_is)
      (case t_InvalidNumber => k_is)
      (case l_InvalidNumber => k_is)
      (case ld_InvalidNumber => k_is)
      (case cd_InvalidNumber => k_is)
      (case cr_InvalidNumber => k_is)
      (case v2_InvalidNumber => rfl)
      (case fl_InvalidNumber => first | rfl | decide +kernel)
      (case clc_InvalidNumber => k_is)
      (case al_InvalidNumber => first | k_is | ks_is | kernel_rfl)
      (case sV_InvalidNumber => k_is)
      (case eC_InvalidNumber => k_is)
      (case sC_InvalidNumber => first | k_is | kernel_rfl | rfl)
      (case kC_InvalidNumber => k_is)
      (case tC_InvalidNumber => k_is)
      (case ac_InvalidScript => k_is)
      (case ac_InvalidList => k_is)
      (case ac_InvalidWrite => k_is)
      (case xL_InvalidWrite => k_is)
      (case sa_InvalidWrite => k_is)
      (case nb_InvalidWrite => k_is)
      (case i_InvalidWrite => k_is)
      (case t_InvalidWrite => k_is)
      (case l_InvalidWrite => k_is)
      (case ld_InvalidWrite => k_is)
      (case cd_InvalidWrite => k_is)
      (case cr_InvalidWrite => k_is)
      (case v2_InvalidWrite => rfl)
      (case fl_InvalidWrite => first | rfl | decide +kernel)
      (case clc_InvalidWrite => k_is)
      (case al_InvalidWrite => first | k_is | ks_is | kernel_rfl)
      (case sV_InvalidWrite => k_is)
      (case eC_InvalidWrite => k_is)
      (case sC_InvalidWrite => first | k_is | kernel_rfl | rfl)
      (case kC_InvalidWrite => k_is)
      (case tC_InvalidWrite => k_is)
      (case ac_InvalidText => k_is)
      (case xL_InvalidText => k_is)
      (case sa_InvalidText => k_is)
      (case ga_InvalidText => k_is)
      (case gg_InvalidText => k_is)
      (case nb_InvalidText => k_is)
      (case i_InvalidText => k_is)
      (case t_InvalidText => k_is)
      (case l_InvalidText => k_is)
      (case ld_InvalidText => k_is)
      (case cd_InvalidText => k_is)
      (case cr_InvalidText => k_is)
      (case v2_InvalidText => rfl)
      (case fl_InvalidText => first | rfl | decide +kernel)
      (case clc_InvalidText => k_is)
      (case al_InvalidText => first | k_is | ks_is | kernel_rfl)
      (case sV_InvalidText => k_is)
      (case eC_InvalidText => k_is)
      (case sC_InvalidText => first | k_is | kernel_rfl | rfl)
      (case kC_InvalidText => k_is)
      (case tC_InvalidText => k_is)
      (case hC_InvalidText => k_is)
      (case iC_InvalidText => k_is)
      (case s_InvalidText_InvalidText => first | rfl | k_is)
      (case s_InvalidFile_InvalidText => k_is)
      (case s_InvalidNumber_InvalidText => k_is)
      (case s_InvalidScript_InvalidText => k_is)
      (case s_InvalidList_InvalidText => k_is)
      (case s_InvalidWrite_InvalidText => k_is)


