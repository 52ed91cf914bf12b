import PyProof.Rows.All
import Wide.All
import OpenK.AllK
import Wide.FinOn
import HandS.ForMost
import HandS.ForExc
import HandS.Property
import HandS.CallSlots
import HandS.Walk
import HandS.IsInst
import HandS.Wide
import HandS.WideBits
import HandS.ReplaceLit
import HandS.ReplaceList
import HandS.ExcInit
import HandS.ExcField
import HandS.ExcSuper
import KE.KExcSuper
import HandS.Style
import HandS.Dict
import HandS.More
import PyProof.NeKinds
import HandS.Text
import HandS.StrMore
import PyProof.Draws
import PyProof.EnumMake
import OpenK.KOps
import OpenK.KMeth
import KE.KOpsOwn
import KE.KFmtOwn
import PyProof.FactsAll.object_2
import PyProof.SliceStr2
import HandS.IterVal
import KE.KOwnIter
import PyProof.ListStr
import HandS.TryMany
import PyProof.LongRange
import HandS.TupAny
import HandS.TupSets
import HandS.OwnEq
import HandS.Defaults
import HandS.Deep
import HandS.Conv
import HandS.SortInts
import KE.SortData
import HandS.Zip
import HandS.SetFor
import HandS.Strs
import PySem.Challenge.RW_keptholes_k40_arguments_by_name
import KE.OsRunLaw
set_option Elab.async false
set_option linter.all false
set_option maxRecDepth 100000
set_option maxHeartbeats 1000000
namespace Kh
open PySem PySem.Spec L2

/-! ### data as trees -/
inductive Dat where
  | non | bl (b : Bool) | int (i : Int) | str (s : Str) | raw (v : V)
  | dic0 | scr (ns : List Int) | lst (xs : List Dat) | tup (xs : List Dat) | obj (C : Addr) (ns : List Str) (xs : List Dat)
  | xn (a dd : Addr) (ns : List Str) (xs : List Dat)
  | at (a : Addr) (d : Dat)

theorem Same.tpl {K : PySem.W.Frag} {H H' : Hp} {a : Addr} {xs : List V} (e : Same H H') (h : SqT K H a xs) : SqT K H' a xs := by
  rcases h with (h | ⟨o, h⟩) | h
  · exact .inl (.inl (e _ _ h))
  · exact .inl (.inr ⟨o, e _ _ h⟩)
  · exact .inr h

mutual
def Den (K : PySem.W.Frag) (G : Hp) : Dat → V → Prop
  | .non, v => v = .non
  | .bl b, v => v = .bl b
  | .int i, v => v = .int i
  | .str s, v => v = .str s
  | .raw u, v => v = u
  | .dic0, v => ∃ a, v = .ref a ∧ G a = some (.dK [])
  | .scr ns, v => ∃ a, v = .ref a ∧ SqL K G a (ns.map V.int)
  | .lst ds, v => ∃ a vs, v = .ref a ∧ G a = some (.lst vs) ∧ DenL K G ds vs
  | .tup ds, v => ∃ a vs, v = .ref a ∧ G a = some (.tup vs) ∧ DenL K G ds vs
  | .obj C ns ds, v => ∃ a dx vs, v = .ref a ∧ G a = some (.ins C dx (ns.zip vs)) ∧ G dx = some (.own a) ∧ DenL K G ds vs
  | .xn a dd ns ds, v => ∃ vs, v = .ref a ∧ G dd = some (.xd (ns.zip vs)) ∧ DenL K G ds vs
  | .at a d, v => v = .ref a ∧ Den K G d v
def DenL (K : PySem.W.Frag) (G : Hp) : List Dat → List V → Prop
  | [], vs => vs = []
  | d :: ds, vs => ∃ v r, vs = v :: r ∧ Den K G d v ∧ DenL K G ds r
end
section
variable {K : PySem.W.Frag} {G G' H H' : Hp}
mutual
theorem Den.mono (h : Same G G') : ∀ (d : Dat) (v : V), Den K G d v → Den K G' d v
  | .non, _, q => by simpa [Den] using q
  | .bl _, _, q => by simpa [Den] using q
  | .int _, _, q => by simpa [Den] using q
  | .str _, _, q => by simpa [Den] using q
  | .raw _, _, q => by simpa [Den] using q
  | .dic0, _, q => by
    simp only [Den] at q ⊢
    obtain ⟨a, e, g⟩ := q
    exact ⟨a, e, h _ _ g⟩
  | .scr _, _, q => by
    simp only [Den] at q ⊢
    obtain ⟨a, e, g⟩ := q
    exact ⟨a, e, h.seq g⟩
  | .lst ds, v, q => by
    simp only [Den] at q ⊢
    obtain ⟨a, vs, e, s, t⟩ := q
    exact ⟨a, vs, e, h _ _ s, DenL.mono h ds vs t⟩
  | .tup ds, v, q => by
    simp only [Den] at q ⊢
    obtain ⟨a, vs, e, s, t⟩ := q
    exact ⟨a, vs, e, h _ _ s, DenL.mono h ds vs t⟩
  | .obj C ns ds, v, q => by
    simp only [Den] at q ⊢
    obtain ⟨a, dx, vs, e, s, s2, t⟩ := q
    exact ⟨a, dx, vs, e, h _ _ s, h _ _ s2, DenL.mono h ds vs t⟩
  | .xn a dd ns ds, v, q => by
    simp only [Den] at q ⊢
    obtain ⟨vs, e, s, t⟩ := q
    exact ⟨vs, e, h _ _ s, DenL.mono h ds vs t⟩
  | .at a d, v, q => by
    simp only [Den] at q ⊢
    exact ⟨q.1, Den.mono h d v q.2⟩
theorem DenL.mono (h : Same G G') : ∀ (ds : List Dat) (vs : List V), DenL K G ds vs → DenL K G' ds vs
  | [], _, q => by simpa [DenL] using q
  | d :: ds, vs, q => by
    simp only [DenL] at q ⊢
    obtain ⟨v, r, e, s, t⟩ := q
    exact ⟨v, r, e, Den.mono h d v s, DenL.mono h ds r t⟩
end
theorem Den.up {d : Dat} {v : V} (q : Den K G d v) (h : Same G G') : Den K G' d v := Den.mono h d v q
theorem DenL.up {ds : List Dat} {vs : List V} (q : DenL K G ds vs) (h : Same G G') : DenL K G' ds vs := DenL.mono h ds vs q
theorem den_lst {a : Addr} {ds : List Dat} {vs : List V} (h : G a = some (.lst vs)) (q : DenL K G ds vs) : Den K G (.lst ds) (.ref a) := by
  simp only [Den]; exact ⟨a, vs, rfl, h, q⟩
theorem den_tup {a : Addr} {ds : List Dat} {vs : List V} (h : G a = some (.tup vs)) (q : DenL K G ds vs) : Den K G (.tup ds) (.ref a) := by
  simp only [Den]; exact ⟨a, vs, rfl, h, q⟩
theorem den_int {i : Int} : Den K G (.int i) (.int i) := by simp only [Den]
theorem den_bl {b : Bool} : Den K G (.bl b) (.bl b) := by simp only [Den]
theorem den_str {s : Str} : Den K G (.str s) (.str s) := by simp only [Den]
theorem den_non : Den K G .non .non := by simp only [Den]
theorem den_raw {v : V} : Den K G (.raw v) v := by simp only [Den]
theorem Den.lst_inv {ds : List Dat} {v : V} (q : Den K G (.lst ds) v) : ∃ a vs, v = .ref a ∧ G a = some (.lst vs) ∧ DenL K G ds vs := by simpa only [Den] using q
theorem Den.tup_inv {ds : List Dat} {v : V} (q : Den K G (.tup ds) v) : ∃ a vs, v = .ref a ∧ G a = some (.tup vs) ∧ DenL K G ds vs := by simpa only [Den] using q
theorem Den.obj_inv {C : Addr} {ns : List Str} {ds : List Dat} {v : V} (q : Den K G (.obj C ns ds) v) : ∃ a dx vs, v = .ref a ∧ G a = some (.ins C dx (ns.zip vs)) ∧ G dx = some (.own a) ∧ DenL K G ds vs := by simpa only [Den] using q
theorem Den.xn_inv {a dd : Addr} {ns : List Str} {ds : List Dat} {v : V} (q : Den K G (.xn a dd ns ds) v) : ∃ vs, v = .ref a ∧ G dd = some (.xd (ns.zip vs)) ∧ DenL K G ds vs := by simpa only [Den] using q
theorem Den.at_inv {a : Addr} {d : Dat} {v : V} (q : Den K G (.at a d) v) : v = .ref a ∧ Den K G d v := by simpa only [Den] using q
theorem Den.scr_inv {ns : List Int} {v : V} (q : Den K G (.scr ns) v) : ∃ a, v = .ref a ∧ SqL K G a (ns.map V.int) := by simpa only [Den] using q
theorem Den.dic0_inv {v : V} (q : Den K G .dic0 v) : ∃ a, v = .ref a ∧ G a = some (.dK []) := by simpa only [Den] using q
theorem Den.int_inv {i : Int} {v : V} (q : Den K G (.int i) v) : v = .int i := by simpa only [Den] using q
theorem Den.bl_inv {b : Bool} {v : V} (q : Den K G (.bl b) v) : v = .bl b := by simpa only [Den] using q
theorem Den.str_inv {s : Str} {v : V} (q : Den K G (.str s) v) : v = .str s := by simpa only [Den] using q
theorem Den.non_inv {v : V} (q : Den K G .non v) : v = .non := by simpa only [Den] using q
theorem Den.raw_inv {u v : V} (q : Den K G (.raw u) v) : v = u := by simpa only [Den] using q
theorem DenL.nil : DenL K G [] [] := by simp only [DenL]
theorem DenL.cons {d : Dat} {ds : List Dat} {v : V} {vs : List V} (h : Den K G d v) (q : DenL K G ds vs) : DenL K G (d :: ds) (v :: vs) := by
  simp only [DenL]; exact ⟨v, vs, rfl, h, q⟩
theorem DenL.nil_inv {vs : List V} (q : DenL K G [] vs) : vs = [] := by simpa only [DenL] using q
theorem DenL.cons_inv {d : Dat} {ds : List Dat} {vs : List V} (q : DenL K G (d :: ds) vs) : ∃ v r, vs = v :: r ∧ Den K G d v ∧ DenL K G ds r := by simpa only [DenL] using q
theorem DenL.length : ∀ {ds : List Dat} {vs : List V}, DenL K G ds vs → vs.length = ds.length
  | [], _, q => by rw [q.nil_inv]; rfl
  | d :: ds, _, q => by
    obtain ⟨v, r, rfl, _, t⟩ := q.cons_inv
    simp only [List.length_cons, t.length]
theorem DenL.get : ∀ {ds : List Dat} {vs : List V} {i : Nat} {d : Dat}, DenL K G ds vs → ds[i]? = some d → ∃ v, vs[i]? = some v ∧ Den K G d v
  | [], _, _, _, _, e => by simp at e
  | _ :: _, _, 0, _, q, e => by
    obtain ⟨v, r, rfl, h, _⟩ := q.cons_inv
    simp at e; subst e
    exact ⟨v, rfl, h⟩
  | _ :: _, _, i + 1, _, q, e => by
    obtain ⟨v, r, rfl, _, t⟩ := q.cons_inv
    obtain ⟨u, h1, h2⟩ := DenL.get t (i := i) (by simpa using e)
    exact ⟨u, by simpa using h1, h2⟩
theorem DenL.append : ∀ {ds es : List Dat} {vs us : List V}, DenL K G ds vs → DenL K G es us → DenL K G (ds ++ es) (vs ++ us)
  | [], _, _, _, q, r => by rw [q.nil_inv]; exact r
  | _ :: _, _, _, _, q, r => by
    obtain ⟨v, t, rfl, h, q⟩ := q.cons_inv
    exact DenL.cons h (DenL.append q r)
theorem DenL.snoc {ds : List Dat} {d : Dat} {vs : List V} {v : V} (q : DenL K G ds vs) (h : Den K G d v) : DenL K G (ds ++ [d]) (vs ++ [v]) := q.append (.cons h .nil)
theorem DenL.take : ∀ {ds : List Dat} {vs : List V} (n : Nat), DenL K G ds vs → DenL K G (ds.take n) (vs.take n)
  | [], _, n, q => by rw [q.nil_inv]; simp only [List.take_nil]; exact .nil
  | _ :: _, _, 0, q => by simp only [List.take_zero]; exact .nil
  | _ :: _, _, n + 1, q => by
    obtain ⟨v, t, rfl, h, q⟩ := q.cons_inv
    exact DenL.cons h (DenL.take n q)
theorem DenL.drop : ∀ {ds : List Dat} {vs : List V} (n : Nat), DenL K G ds vs → DenL K G (ds.drop n) (vs.drop n)
  | [], _, n, q => by rw [q.nil_inv]; simp only [List.drop_nil]; exact .nil
  | _ :: _, _, 0, q => q
  | _ :: _, _, n + 1, q => by
    obtain ⟨v, t, rfl, h, q⟩ := q.cons_inv
    exact DenL.drop n q
theorem DenL.reverse : ∀ {ds : List Dat} {vs : List V}, DenL K G ds vs → DenL K G ds.reverse vs.reverse
  | [], _, q => by rw [q.nil_inv]; exact .nil
  | _ :: _, _, q => by
    obtain ⟨v, t, rfl, h, q⟩ := q.cons_inv
    simp only [List.reverse_cons]
    exact q.reverse.append (.cons h .nil)
theorem DenL.set {d : Dat} {v : V} (h : Den K G d v) : ∀ {ds : List Dat} {vs : List V} (i : Nat), DenL K G ds vs → DenL K G (ds.set i d) (vs.set i v)
  | [], _, _, q => by rw [q.nil_inv]; exact .nil
  | _ :: _, _, 0, q => by
    obtain ⟨u, t, rfl, _, q⟩ := q.cons_inv
    exact DenL.cons h q
  | _ :: _, _, i + 1, q => by
    obtain ⟨u, t, rfl, g, q⟩ := q.cons_inv
    exact DenL.cons g (DenL.set h i q)
/-- lists of ints, texts, bools by their values -/
theorem DenL.ints : ∀ {ns : List Int} {vs : List V}, DenL K G (ns.map Dat.int) vs → vs = ns.map V.int
  | [], _, q => q.nil_inv
  | n :: ns, _, q => by
    obtain ⟨v, t, rfl, h, q⟩ := q.cons_inv
    rw [h.int_inv, DenL.ints q]
    all_goals rfl
theorem denL_ints : ∀ {ns : List Int}, DenL K G (ns.map Dat.int) (ns.map V.int)
  | [] => .nil
  | n :: ns => .cons den_int denL_ints
theorem DenL.strs : ∀ {ns : List Str} {vs : List V}, DenL K G (ns.map Dat.str) vs → vs = ns.map V.str
  | [], _, q => q.nil_inv
  | n :: ns, _, q => by
    obtain ⟨v, t, rfl, h, q⟩ := q.cons_inv
    rw [h.str_inv, DenL.strs q]
    all_goals rfl
end

/-! ### the slots -/
abbrev TEnv := List (Option Dat)
def DenE (K : PySem.W.Frag) (τ : TEnv) (G : Hp) (σ : St) : Prop := ∀ (i : Nat) (d : Dat), τ[i]? = some (some d) → ∃ v, σ[i]? = some (some v) ∧ Den K G d v
section
variable {K : PySem.W.Frag} {G G' : Hp} {τ : TEnv} {σ : St}
theorem DenE.up (q : DenE K τ G σ) (h : Same G G') : DenE K τ G' σ := fun i d e => let ⟨v, h1, h2⟩ := q i d e; ⟨v, h1, h2.up h⟩
theorem DenE.set {i : Nat} {d : Dat} {v : V} (q : DenE K τ G σ) (hi : i < σ.length) (h : Den K G d v) : DenE K (τ.set i (some d)) G (σ.set i (some v)) := fun j e hj => by
  by_cases c : i = j
  · subst c
    have hl : i < τ.length := by
      have := (List.getElem?_eq_some_iff.mp hj).1
      simpa using this
    rw [List.getElem?_set_self hl] at hj
    cases hj
    exact ⟨v, List.getElem?_set_self hi, h⟩
  · rw [List.getElem?_set_ne c] at hj
    obtain ⟨u, h1, h2⟩ := q j e hj
    exact ⟨u, by rw [List.getElem?_set_ne c]; exact h1, h2⟩
end

/-! ### what may change -/
inductive MC where
  | lst (ds : List Dat) | ins (C dx : Addr) (fs : List (Str × Dat)) | dic (kvs : List (Key × Dat))
abbrev Mem := List (Addr × MC)
def adr1 : Addr × MC → List Addr
  | (p, .ins _ dx _) => [p, dx]
  | (p, _) => [p]
def adr (M : Mem) : List Addr := M.flatMap adr1
/-- names with data against names with values -/
def DenF (K : PySem.W.Frag) (G : Hp) {κ : Type} (fs : List (κ × Dat)) (vs : List (κ × V)) : Prop := vs.map (·.1) = fs.map (·.1) ∧ DenL K G (fs.map (·.2)) (vs.map (·.2))
def MH (K : PySem.W.Frag) (G H : Hp) : Addr × MC → Prop
  | (p, .lst ds) => ∃ vs, H p = some (.lst vs) ∧ DenL K G ds vs
  | (p, .ins C dx fs) => ∃ vs, H p = some (.ins C dx vs) ∧ H dx = some (.own p) ∧ DenF K G fs vs
  | (p, .dic kvs) => ∃ vs, H p = some (.dK vs) ∧ DenF K G kvs vs
structure Hst (K : PySem.W.Frag) (G : Hp) (M : Mem) (H : Hp) : Prop where
  sub : Same G H
  mem : ∀ c ∈ M, MH K G H c
  out : ∀ b ∈ adr M, G b = none
  nd : (adr M).Nodup
structure Stp (G : Hp) (M : Mem) (H G2 : Hp) (M2 : Mem) (H2 : Hp) : Prop where
  gg : Same G G2
  hh : ∀ b o, b ∉ adr M → H b = some o → H2 b = some o
  fr : ∀ b, H b ≠ none → b ∉ adr M → G b = none → G2 b = none
  ad : ∀ b ∈ adr M2, b ∈ adr M ∨ H b = none
section
variable {K : PySem.W.Frag} {G G1 G2 G3 H H1 H2 H3 : Hp} {M M1 M2 M3 : Mem}
theorem DenF.up {κ : Type} {fs : List (κ × Dat)} {vs : List (κ × V)} (q : DenF K G fs vs) (h : Same G G1) : DenF K G1 fs vs := ⟨q.1, q.2.up h⟩
theorem Stp.refl : Stp G M H G M H := ⟨Same.refl _, fun _ _ _ e => e, fun _ _ _ e => e, fun _ h => .inl h⟩
theorem Stp.trans (a : Stp G M H G1 M1 H1) (b : Stp G1 M1 H1 G2 M2 H2) : Stp G M H G2 M2 H2 where
  gg := a.gg.trans b.gg
  hh := fun c o n e => by
    refine b.hh c o (fun z => ?_) (a.hh c o n e)
    rcases a.ad c z with z | z
    · exact n z
    · rw [e] at z; cases z
  fr := fun c hc n g => by
    have z1 : c ∉ adr M1 := fun z => by
      rcases a.ad c z with z | z
      · exact n z
      · exact hc z
    refine b.fr c (fun z => ?_) z1 (a.fr c hc n g)
    cases e : H c with
    | none => exact hc e
    | some o => rw [a.hh c o n e] at z; cases z
  ad := fun c h => by
    rcases b.ad c h with z | z
    · exact a.ad c z
    · refine (Classical.em (c ∈ adr M)).imp id fun n => ?_
      cases e : H c with
      | none => rfl
      | some o => rw [a.hh c o n e] at z; cases z
theorem MH.up {c : Addr × MC} (q : MH K G H c) (h : Same G G1) (e : ∀ b ∈ adr1 c, ∀ o, H b = some o → H1 b = some o) : MH K G1 H1 c := by
  obtain ⟨p, c⟩ := c
  cases c with
  | lst ds => obtain ⟨vs, h1, h2⟩ := q; exact ⟨vs, e p (by simp [adr1]) _ h1, h2.up h⟩
  | ins C dx fs => obtain ⟨vs, h1, h2, h3⟩ := q; exact ⟨vs, e p (by simp [adr1]) _ h1, e dx (by simp [adr1]) _ h2, h3.up h⟩
  | dic kvs => obtain ⟨vs, h1, h2⟩ := q; exact ⟨vs, e p (by simp [adr1]) _ h1, h2.up h⟩
theorem MH.there {c : Addr × MC} (q : MH K G H c) : ∀ b ∈ adr1 c, H b ≠ none := by
  obtain ⟨p, c⟩ := c
  intro b hb z
  cases c with
  | lst ds =>
    obtain ⟨vs, h1, h2⟩ := q
    have hb : b = p := by simpa [adr1] using hb
    rw [hb, h1] at z; cases z
  | ins C dx fs =>
    obtain ⟨vs, h1, h2, h3⟩ := q
    have hb : b = p ∨ b = dx := by simpa [adr1] using hb
    rcases hb with rfl | rfl
    · rw [h1] at z; cases z
    · rw [h2] at z; cases z
  | dic kvs =>
    obtain ⟨vs, h1, h2⟩ := q
    have hb : b = p := by simpa [adr1] using hb
    rw [hb, h1] at z; cases z
theorem Hst.there (h : Hst K G M H) : ∀ b ∈ adr M, H b ≠ none := fun b hb => by
  obtain ⟨c, hc, hb⟩ := List.mem_flatMap.mp hb
  exact (h.mem c hc).there b hb
theorem adr_append {A B : Mem} : adr (A ++ B) = adr A ++ adr B := by unfold adr; exact List.flatMap_append
theorem adr_perm {A B : Mem} (p : A.Perm B) : (adr A).Perm (adr B) := by unfold adr; exact p.flatMap_right _
theorem Hst.perm (h : Hst K G M H) (p : M.Perm M1) : Hst K G M1 H :=
  ⟨h.sub, fun c hc => h.mem c (p.mem_iff.mpr hc), fun b hb => h.out b ((adr_perm p).mem_iff.mpr hb), (adr_perm p).nodup_iff.mp h.nd⟩
theorem Stp.perm {A B : Mem} (s : Stp G M H G2 M2 H2) (p : M.Perm A) (q : M2.Perm B) : Stp G A H G2 B H2 :=
  ⟨s.gg, fun b o n e => s.hh b o (fun z => n ((adr_perm p).mem_iff.mp z)) e, fun b hb n g => s.fr b hb (fun z => n ((adr_perm p).mem_iff.mp z)) g,
    fun b hb => (s.ad b ((adr_perm q).mem_iff.mpr hb)).imp (fun z => (adr_perm p).mem_iff.mp z) id⟩
/-- a part of what may change -/
theorem Hst.left {A B : Mem} (h : Hst K G (A ++ B) H) : Hst K G A H :=
  ⟨h.sub, fun c hc => h.mem c (List.mem_append_left _ hc), fun b hb => h.out b (by rw [adr_append]; exact List.mem_append_left _ hb), by
    have := h.nd; rw [adr_append] at this; exact (List.nodup_append.mp this).1⟩
/-- the rest stays -/
theorem Stp.frame {A A2 B : Mem} (h : Hst K G (A ++ B) H) (s : Stp G A H G2 A2 H2) (h2 : Hst K G2 A2 H2) : Stp G (A ++ B) H G2 (A2 ++ B) H2 ∧ Hst K G2 (A2 ++ B) H2 := by
  have nd := h.nd
  rw [adr_append] at nd
  obtain ⟨n1, n2, n3⟩ := List.nodup_append.mp nd
  have nB : ∀ b ∈ adr B, b ∉ adr A := fun b hb ha => n3 b ha b hb rfl
  have th : ∀ b ∈ adr B, H b ≠ none := fun b hb => h.there b (by rw [adr_append]; exact List.mem_append_right _ hb)
  refine ⟨⟨s.gg, fun b o n e => s.hh b o (fun z => n (by rw [adr_append]; exact List.mem_append_left _ z)) e, fun b hb n g => s.fr b hb (fun z => n (by rw [adr_append]; exact List.mem_append_left _ z)) g, fun b hb => ?_⟩, h2.sub, fun c hc => ?_, fun b hb => ?_, ?_⟩
  · rw [adr_append] at hb ⊢
    rcases List.mem_append.mp hb with z | z
    · exact (s.ad b z).imp (fun y => List.mem_append_left _ y) id
    · exact .inl (List.mem_append_right _ z)
  · rcases List.mem_append.mp hc with z | z
    · exact h2.mem c z
    · exact (h.mem c (List.mem_append_right _ z)).up s.gg fun b hb o e => s.hh b o (nB b (List.mem_flatMap.mpr ⟨c, z, hb⟩)) e
  · rw [adr_append] at hb
    rcases List.mem_append.mp hb with z | z
    · exact h2.out b z
    · exact s.fr b (th b z) (nB b z) (h.out b (by rw [adr_append]; exact List.mem_append_right _ z))
  · rw [adr_append]
    refine List.nodup_append.mpr ⟨h2.nd, n2, fun a ha b hb e => ?_⟩
    subst e
    rcases s.ad a ha with z | z
    · exact nB a hb z
    · exact th a hb z
/-- a new thing of the unchanging part -/
theorem Stp.new {p : Addr} {o : HO} (h : Hst K G M H) (hp : H p = none) : Stp G M H (upd G p o) M (upd H p o) ∧ Hst K (upd G p o) M (upd H p o) := by
  have gp : G p = none := h.sub.free hp
  have nM : ∀ b ∈ adr M, b ≠ p := fun b hb e => h.there b hb (by rw [e]; exact hp)
  refine ⟨⟨fun b u e => ?_, fun b u _ e => ?_, fun b hb _ g => ?_, fun b hb => .inl hb⟩, fun b u e => ?_, fun c hc => (h.mem c hc).up (fun b u e => ?_) fun b hb u e => ?_, fun b hb => ?_, h.nd⟩
  · rw [upd_ne (ne_of_none e gp)]; exact e
  · rw [upd_ne (ne_of_none e hp)]; exact e
  · rw [upd_ne (fun e => hb (by rw [e]; exact hp))]; exact g
  · by_cases c : b = p
    · subst c; rw [upd_same] at e ⊢; exact e
    · rw [upd_ne c] at e ⊢; exact h.sub b u e
  · rw [upd_ne (ne_of_none e gp)]; exact e
  · rw [upd_ne (nM b (List.mem_flatMap.mpr ⟨c, hc, hb⟩))]; exact e
  · rw [upd_ne (nM b hb)]; exact h.out b hb
end
end Kh

set_option Elab.async false
set_option linter.all false
set_option maxRecDepth 100000
set_option maxHeartbeats 1000000
namespace Kh
open PySem PySem.Spec L2
open PyProof.Rows (isTrue_plain isTrue_not isTrue_and isTrue_or isTrue_and_nil isTrue_or_nil BoolOp_one BoolOp_and BoolOp_or UnaryOp_ not_of)

/-! ### the weakest readings; T: a token is out already -/
def Tk (T : Bool) (s : Shared) : Prop := T = true → 1 ≤ s.toks
theorem tk_f {s : Shared} : Tk false s := fun h => nomatch h
section
variable {α : Type} {t : Sem α} {Q Q' : α → Shared → Prop} {M : Model} {A : Around} {E : Value → Shared → Prop} {s : Shared} {T : Bool}
theorem thnT (hT : Tk T s) (h : wpAny M A t Q E s) (hQ : ∀ a s', Tk T s' → Q a s' → Q' a s') : wpAny M A t Q' E s := by
  cases T with
  | false => exact thn h fun a s' q => hQ a s' tk_f q
  | true => exact wpAny_with_toks (hT rfl) (wpAny_mono h (fun a s' q k => hQ a s' (fun _ => k) q) fun _ _ x _ => x)
end
def tW (X : Cx) (T : Bool) (e : Expr) : TE := fun σ H Q => ∀ pins s, Tk T s → Inv X pins σ H s → wpAny (model X.prog X.w) X.A (eval e X.env) (EP X pins σ Q) X.xe s
def tWT (X : Cx) (T : Bool) (e : Expr) : TT := fun σ H Q => ∀ pins s, Tk T s → Inv X pins σ H s → wpAny (model X.prog X.w) X.A (isTrue e X.env (eval e X.env)) (TP X pins σ Q) X.xe s
def tWW (X : Cx) (T : Bool) (e : Expr) : TT := fun σ H Q => ∀ whole pins s, Tk T s → Inv X pins σ H s → wpAny (model X.prog X.w) X.A (isTrue e X.env whole) (TP X pins σ Q) X.xe s
def tWA (X : Cx) (T : Bool) (es : List Expr) : TA := fun σ H Q => ∀ (pos : Pos) pins s, Tk T s → Inv X pins σ H s → wpAny (model X.prog X.w) X.A (spliced (backTo pos (starEach es X.env))) (AP X pins σ Q) X.xe s
def tWS (X : Cx) (T : Bool) (st : Stmt) : TS := fun D σ H => ∀ pins s, Tk T s → Inv X pins σ H s → wpAny (model X.prog X.w) X.A (exec st X.env) (SP X pins D) X.xe s
def tWSs (X : Cx) (T : Bool) (ss : List Stmt) : TS := fun D σ H => ∀ pins s, Tk T s → Inv X pins σ H s → wpAny (model X.prog X.w) X.A (execs ss X.env) (SP X pins D) X.xe s
def tWI (X : Cx) (T : Bool) (tg iter : Expr) : TI := fun σ H R => ∀ pins s, Tk T s → Inv X pins σ H s → wpAny (model X.prog X.w) X.A (eval iter X.env) (fun v s1 => wpAny (model X.prog X.w) X.A (pyIter v) (PIE X pins σ tg R) X.xe s1) X.xe s
def tWG (X : Cx) (T : Bool) (target : Expr) : TG := fun v σ H Q => ∀ pins s u, Tk T s → Inv X pins σ H s → RelV v u → wpAny (model X.prog X.w) X.A (assign target X.env u) (fun _ s' => ∃ σ' H', Inv X pins σ' H' s' ∧ Q σ' H') X.xe s
def tWGs (X : Cx) (T : Bool) (ts : List Expr) : TGs := fun vs σ H Q => ∀ pins s us, Tk T s → Inv X pins σ H s → Vals vs us → wpAny (model X.prog X.w) X.A (assignInOrder ((assignEach ts X.env).map (·.2)) us) (fun _ s' => ∃ σ' H', Inv X pins σ' H' s' ∧ Q σ' H') X.xe s
def rW (X : Cx) (T : Bool) (f : Value → Value → Sem Value) : R2 := fun x y H Q => ∀ pins s σ v u, Tk T s → Inv X pins σ H s → RelV x v → RelV y u → wpAny (model X.prog X.w) X.A (f v u) (EP X pins σ Q) X.xe s
section
variable {X : Cx} {T : Bool} {e a b c : Expr} {es rest' : List Expr} {st : Stmt} {ss rest : List Stmt} {tg iter : Expr} {pos : Pos} {σ : L2.St} {H : Hp} {Q : VK} {QT : Bool → Hp → Prop} {D : Ends}
theorem tW_of {t : TE} (h : PE X e t) (q : t σ H Q) : tW X T e σ H Q := fun pins s _ I => h.run pins s σ H Q I q
theorem tWA_of {t : TA} {Q : List V → Hp → Prop} (h : PA X es t) (q : t σ H Q) : tWA X T es σ H Q := fun pos pins s _ I => h.run pos pins s σ H Q I q
theorem tWS_of {t : TS} (h : PS X st t) (q : t D σ H) : tWS X T st D σ H := fun pins s _ I => h.run pins s σ H D I q
theorem tWSs_of {t : TS} (h : PSs X ss t) (q : t D σ H) : tWSs X T ss D σ H := fun pins s _ I => h.run pins s σ H D I q
theorem tWI_of {t : TI} {R : It → Hp → Prop} (h : PI X tg iter t) (q : t σ H R) : tWI X T tg iter σ H R := fun pins s _ I => h.run pins s σ H R I q
theorem tWG_of {t : TG} {v : V} {Q : L2.St → Hp → Prop} (h : PG X tg t) (q : t v σ H Q) : tWG X T tg v σ H Q := fun pins s u _ I r => h.run pins s σ H v u Q I r q
theorem rW_of {f : Value → Value → Sem Value} {r : R2} {x y : V} (h : OpR X f r) (q : r x y H Q) : rW X T f x y H Q := fun pins s σ v u _ I rx ry => h pins s σ H x y v u Q I rx ry q
/-- without the token -/
theorem pe_W : PE X e (tW X false e) := ⟨fun pins s _ _ _ I h => h pins s tk_f I⟩
theorem pt_W : PT X e (tWT X false e) := ⟨fun pins s _ _ _ I h => h pins s tk_f I⟩
theorem pa_W : PA X es (tWA X false es) := ⟨fun pos pins s _ _ _ I h => h pos pins s tk_f I⟩
theorem pi_W : PI X tg iter (tWI X false tg iter) := ⟨fun pins s _ _ _ I h => h pins s tk_f I⟩
theorem pg_W : PG X tg (tWG X false tg) := ⟨fun pins s _ _ _ u _ I r h => h pins s u tk_f I r⟩
theorem tWSs_len (h : σ.length = X.N.length → tWSs X T ss D σ H) : tWSs X T ss D σ H := fun pins s k I => h I.len pins s k I
theorem tWG_len {v : V} {Q : L2.St → Hp → Prop} (h : σ.length = X.N.length → tWG X T tg v σ H Q) : tWG X T tg v σ H Q := fun pins s u k I r => h I.len pins s u k I r
/-! the constructs, from the readings of their parts -/
theorem w_two {f : Value → Value → Sem Value} (q : tW X T a σ H fun x H1 => tW X T b σ H1 fun y H2 => rW X T f x y H2 Q) {pins : List (Addr × Obj)} {s : Shared} (k : Tk T s) (I : Inv X pins σ H s) :
    wpAny (model X.prog X.w) X.A (eval a X.env) (fun v s₁ => wpAny (model X.prog X.w) X.A (eval b X.env) (fun u s₂ => wpAny (model X.prog X.w) X.A (f v u) (EP X pins σ Q) X.xe s₂) X.xe s₁) X.xe s :=
  thnT k (q pins s k I) fun v s1 k1 ⟨x, H1, I1, r1, q1⟩ => thnT k1 (q1 pins s1 k1 I1) fun u s2 k2 ⟨y, H2, I2, r2, q2⟩ => q2 pins s2 σ v u k2 I2 r1 r2
theorem w_bin {op : Operator} (q : tW X T a σ H fun x H1 => tW X T b σ H1 fun y H2 => rW X T (binaryOp op) x y H2 Q) : tW X T (.BinOp a op b pos) σ H Q := fun pins s k I => wpAny_BinOp (w_two q k I)
theorem w_cmp {op : CmpOp} (hm : behindInMarks op b = false) (q : tW X T a σ H fun x H1 => tW X T b σ H1 fun y H2 => rW X T (compareOp op) x y H2 Q) : tW X T (.Compare a [op] [b] pos) σ H Q := fun pins s k I => wpAny_Compare1 (w_two q k I) hm
theorem w_val (he : ∀ whole, isTrue e X.env whole = (do let v ← whole; standAt e.pos; holding [v] (truthy v))) (q : tW X T e σ H fun x H1 => ∃ c, x = .bl c ∧ QT c H1) : tWT X T e σ H QT := fun pins s k I =>
  isTrue_plain (thnT k (q pins s k I) fun v s1 _ ⟨x, H1, I1, r1, c, ec, q1⟩ => by subst ec; cases r1; exact wpAny_truthy_bool ⟨H1, I1, q1⟩) (he _)
theorem w_cmpT {op : CmpOp} (hm : behindInMarks op b = false) (q : tW X T a σ H fun x H1 => tW X T b σ H1 fun y H2 => rW X T (compareOp op) x y H2 fun z H3 => ∃ c, z = .bl c ∧ QT c H3) : tWT X T (.Compare a [op] [b] pos) σ H QT := fun pins s k I =>
  wpAny_isTrue_Compare1 (thnT k (w_two q k I) fun v s1 _ h1 => thn h1 fun u s2 h2 => thn h2 fun cv s3 ⟨x, H1, I1, r1, c, ec, q1⟩ => by subst ec; cases r1; exact wpAny_truthy_bool ⟨H1, I1, q1⟩) hm
theorem w_not (q : tWT X T a σ H fun c H1 => QT (!c) H1) : tWT X T (.UnaryOp .Not a pos) σ H QT := fun pins s k I => isTrue_not (q pins s k I)
theorem w_and1 (q : tWT X T a σ H QT) : tWW X T (.BoolOp .And [a] pos) σ H QT := fun wh pins s k I => isTrue_and (thn (q pins s k I) fun c s1 e => by
  cases c with
  | true => exact isTrue_and_nil e
  | false => exact e)
theorem w_or1 (q : tWT X T a σ H QT) : tWW X T (.BoolOp .Or [a] pos) σ H QT := fun wh pins s k I => isTrue_or (thn (q pins s k I) fun c s1 e => by
  cases c with
  | false => exact isTrue_or_nil e
  | true => exact e)
theorem w_and (q : tWT X T a σ H fun c H1 => if c = true then tWW X T (.BoolOp .And (b :: rest') pos) σ H1 QT else QT false H1) : tWW X T (.BoolOp .And (a :: b :: rest') pos) σ H QT := fun wh pins s k I =>
  isTrue_and (thnT k (q pins s k I) fun c s1 k1 ⟨H1, I1, q1⟩ => by
    cases c with
    | true => exact q1 wh pins s1 k1 I1
    | false => exact ⟨H1, I1, q1⟩)
theorem w_or (q : tWT X T a σ H fun c H1 => if c = true then QT true H1 else tWW X T (.BoolOp .Or (b :: rest') pos) σ H1 QT) : tWW X T (.BoolOp .Or (a :: b :: rest') pos) σ H QT := fun wh pins s k I =>
  isTrue_or (thnT k (q pins s k I) fun c s1 k1 ⟨H1, I1, q1⟩ => by
    cases c with
    | false => exact q1 wh pins s1 k1 I1
    | true => exact ⟨H1, I1, q1⟩)
theorem v_one {op} (q : tW X T a σ H Q) : tW X T (.BoolOp op [a] pos) σ H Q := fun pins s k I => BoolOp_one (q pins s k I)
theorem v_and (q : tW X T a σ H fun x H1 => ∃ c, x = .bl c ∧ if c = true then tW X T (.BoolOp .And (b :: rest') pos) σ H1 Q else Q (.bl false) H1) : tW X T (.BoolOp .And (a :: b :: rest') pos) σ H Q := fun pins s k I =>
  BoolOp_and (thnT k (q pins s k I) fun v s1 k1 ⟨x, H1, I1, r1, c, ec, q1⟩ => by
    subst ec; cases r1
    refine wpAny_truthy_bool ?_
    cases c with
    | true => exact q1 pins s1 k1 I1
    | false => exact ⟨.bl false, H1, I1, rfl, q1⟩)
theorem v_not (q : tW X T a σ H fun x H1 => ∃ c, x = .bl c ∧ Q (.bl (!c)) H1) : tW X T (.UnaryOp .Not a pos) σ H Q := fun pins s k I =>
  UnaryOp_ (thn (q pins s k I) fun v s1 ⟨x, H1, I1, r1, c, ec, q1⟩ => by subst ec; cases r1; exact not_of (wpAny_truthy_bool ⟨.bl (!c), H1, I1, rfl, q1⟩))
theorem v_if (q : tWT X T c σ H fun k H1 => if k = true then tW X T a σ H1 Q else tW X T b σ H1 Q) : tW X T (.IfExp c a b pos) σ H Q := fun pins s k I =>
  wpAny_IfExp (thnT k (q pins s k I) fun d s1 k1 ⟨H1, I1, q1⟩ => by
    cases d with
    | true => exact q1 pins s1 k1 I1
    | false => exact q1 pins s1 k1 I1)
theorem wa_cons {Q : List V → Hp → Prop} (hs : starEach (e :: es) X.env = (false, eval e X.env) :: starEach es X.env) (q : tW X T e σ H fun x H1 => tWA X T es σ H1 fun xs H2 => Q (x :: xs) H2) : tWA X T (e :: es) σ H Q := fun pos pins s k I => by
  rw [hs]
  show wpAny _ _ (spliced ((false, eval e X.env) :: backTo pos (starEach es X.env))) _ _ s
  exact Calls.spliced_cons (thnT k (q pins s k I) fun u s1 k1 ⟨x, H1, I1, r1, q1⟩ => thn (q1 pos pins s1 k1 I1) fun us s2 ⟨xs, H2, I2, r2, q2⟩ => ⟨x :: xs, H2, I2, .cons r1 r2, q2⟩)
/-! statements -/
theorem ws_step' (q : tWS X T st { D with nx := tWSs X T rest D } σ H) : tWSs X T (st :: rest) D σ H := fun pins s k I =>
  wpAny_execs_cons (thnT k (q pins s k I) fun f s1 k1 h => by
    cases f with
    | next => obtain ⟨σ', H', I', h⟩ := h; exact h pins s1 k1 I'
    | ret v => exact h
    | brk => exact h
    | cont => exact h)
theorem s_ret (q : tW X T e σ H D.rt) : tWS X T (.Return (some e) pos) D σ H := fun pins s k I => wpAny_Return_some (thn (q pins s k I) fun v s1 ⟨x, H1, I1, r1, q1⟩ => ⟨x, σ, H1, I1, r1, q1⟩)
theorem s_expr (hs : swapsWith e none pos.line X.env = pure false) (q : tW X T e σ H fun _ H1 => D.nx σ H1) : tWS X T (.Expr e pos) D σ H := fun pins s k I =>
  wpAny_Expr_any (thn (q pins s k I) fun v s1 ⟨x, H1, I1, r1, q1⟩ => ⟨σ, H1, I1, q1⟩) I.quiet hs
theorem s_if {t : Expr} {p q : List Stmt} (h : tWT X T t σ H fun k H1 => if k = true then tWSs X T p D σ H1 else tWSs X T q D σ H1) : tWS X T (.If t p q pos) D σ H := fun pins s k I =>
  wpAny_If (thnT k (h pins s k I) fun d s1 k1 ⟨H1, I1, q1⟩ => by
    cases d with
    | true => exact q1 pins s1 k1 I1
    | false => exact q1 pins s1 k1 I1)
theorem s_asg (hs : swapsWithSole [tg] e pos.line X.env = pure false) (hw : swappedStores [tg] e X.env = pure none) (h1 : (assignEach [tg] X.env).map (·.2) = [assign tg X.env]) (q : tW X T e σ H fun x H1 => tWG X T tg x σ H1 D.nx) : tWS X T (.Assign [tg] e pos) D σ H := fun pins s k I =>
  wpAny_Assign_stores (thnT k (q pins s k I) fun v s1 k1 ⟨x, H1, I1, r1, q1⟩ => by
    rw [h1]
    exact thn (q1 pins s1 v k1 I1 r1) fun _ s2 q => q) hs hw
theorem s_set {i : Nat} {x : Str} {pos' : Pos} (hN : X.N.Nodup) (hi : X.N[i]? = some x) (hx : Loc X.env.scope x) (hs : swapsWith e (some (.Name x pos')) pos.line X.env = pure false) (hf : X.fn x = true ∨ X.env.scope.names.lookup x = some .local)
    (q : tW X T e σ H fun v H1 => D.nx (σ.set i (some v)) H1) : tWS X T (.Assign [.Name x pos'] e pos) D σ H := fun pins s k I =>
  wpAny_Assign_Name (thn (q pins s k I) fun v s1 ⟨y, H1, I1, r1, q1⟩ => store_ok I1 hN hi hx r1 (fun s2 I2 => ⟨_, H1, I2, q1⟩) hf) hs
end

/-! ### exceptions, ends -/
/-- an exception: its class, its own fields -/
structure Exn where
  C : Addr
  ns : List Str
  ds : List Dat
def DenX (K : PySem.W.Frag) (G H : Hp) (x : Exn) (d : Option Addr) : Prop := (x.ns = [] ∧ x.ds = []) ∨ ∃ dd vs, d = some dd ∧ G dd = some (.xd (x.ns.zip vs)) ∧ DenL K G x.ds vs
inductive Out where
  | nx (τ : TEnv) | rt (d : Dat) | bk (τ : TEnv) | ct (τ : TEnv) | ex (x : Exn) (τ : TEnv)
abbrev RK := Out → Mem → Prop
abbrev PK' := Dat → Mem → Prop
abbrev XKx := Exn → Mem → Prop
section
variable (K : PySem.W.Frag)
def CE' (G : Hp) (M : Mem) (H : Hp) (P : PK') (Q : VK) : Prop := ∀ d M2 v G2 H2, P d M2 → Stp G M H G2 M2 H2 → Hst K G2 M2 H2 → Den K G2 d v → Q v H2
def CT' (G : Hp) (M : Mem) (H : Hp) (P : Bool → Mem → Prop) (Q : Bool → Hp → Prop) : Prop := ∀ b M2 G2 H2, P b M2 → Stp G M H G2 M2 H2 → Hst K G2 M2 H2 → Q b H2
def CA' (G : Hp) (M : Mem) (H : Hp) (P : List Dat → Mem → Prop) (Q : List V → Hp → Prop) : Prop := ∀ ds M2 vs G2 H2, P ds M2 → Stp G M H G2 M2 H2 → Hst K G2 M2 H2 → DenL K G2 ds vs → Q vs H2
def CX' (G : Hp) (M : Mem) (H : Hp) (E : XKx) (T : Value → Option Addr → Hp → Prop) : Prop := ∀ x M2 G2 H2 d, E x M2 → Stp G M H G2 M2 H2 → Hst K G2 M2 H2 → DenX K G2 H2 x d → T (.ref x.C) d H2
def OutOk (G2 H2 : Hp) (D : Ends) (W : WX) : Out → Prop
  | .nx τ => ∀ σ, DenE K τ G2 σ → D.nx σ H2
  | .rt d => ∀ v, Den K G2 d v → D.rt v H2
  | .bk τ => ∀ σ, DenE K τ G2 σ → D.bk σ H2
  | .ct τ => ∀ σ, DenE K τ G2 σ → D.ct σ H2
  | .ex x τ => ∀ σ d, DenE K τ G2 σ → DenX K G2 H2 x d → W (.ref x.C) d σ H2
def CS' (G : Hp) (M : Mem) (H : Hp) (R : RK) (D : Ends) (W : WX) : Prop := ∀ o M2 G2 H2, R o M2 → Stp G M H G2 M2 H2 → Hst K G2 M2 H2 → OutOk K G2 H2 D W o
/-- the target of a store -/
def CG' (G : Hp) (M : Mem) (H : Hp) (P : TEnv → Mem → Prop) (Q : L2.St → Hp → Prop) : Prop := ∀ τ M2 G2 H2 σ, P τ M2 → Stp G M H G2 M2 H2 → Hst K G2 M2 H2 → DenE K τ G2 σ → Q σ H2
end
section
variable {K : PySem.W.Frag} {G G1 H H1 : Hp} {M M1 : Mem}
theorem CE'.step {P : PK'} {Q : VK} (c : CE' K G M H P Q) (s : Stp G M H G1 M1 H1) : CE' K G1 M1 H1 P Q := fun d M2 v G2 H2 p s2 h dv => c d M2 v G2 H2 p (s.trans s2) h dv
theorem CT'.step {P : Bool → Mem → Prop} {Q : Bool → Hp → Prop} (c : CT' K G M H P Q) (s : Stp G M H G1 M1 H1) : CT' K G1 M1 H1 P Q := fun d M2 G2 H2 p s2 h => c d M2 G2 H2 p (s.trans s2) h
theorem CA'.step {P : List Dat → Mem → Prop} {Q : List V → Hp → Prop} (c : CA' K G M H P Q) (s : Stp G M H G1 M1 H1) : CA' K G1 M1 H1 P Q := fun d M2 v G2 H2 p s2 h dv => c d M2 v G2 H2 p (s.trans s2) h dv
theorem CX'.step {E : XKx} {T : Value → Option Addr → Hp → Prop} (c : CX' K G M H E T) (s : Stp G M H G1 M1 H1) : CX' K G1 M1 H1 E T := fun x M2 G2 H2 d p s2 h dv => c x M2 G2 H2 d p (s.trans s2) h dv
theorem CS'.step {R : RK} {D : Ends} {W : WX} (c : CS' K G M H R D W) (s : Stp G M H G1 M1 H1) : CS' K G1 M1 H1 R D W := fun o M2 G2 H2 p s2 h => c o M2 G2 H2 p (s.trans s2) h
theorem CG'.step {P : TEnv → Mem → Prop} {Q : L2.St → Hp → Prop} (c : CG' K G M H P Q) (s : Stp G M H G1 M1 H1) : CG' K G1 M1 H1 P Q := fun d M2 v G2 H2 p s2 h dv => c d M2 v G2 H2 p (s.trans s2) h dv
end

/-! ### the judgements: in the slots τ and the cells M, e gives a value and cells that P takes, or lets out what E takes -/
structure EX (X : Cx) (T : Bool) (e : Expr) (τ : TEnv) (M : Mem) (P : PK') (E : XKx) : Prop where
  run : ∀ W, Takes X W → ∀ σ G H, DenE X.K τ G σ → Hst X.K G M H → ∀ Q, CE' X.K G M H P Q → CX' X.K G M H E (fun c d H2 => W c d σ H2) → tW X T e σ H Q
structure ET (X : Cx) (T : Bool) (e : Expr) (τ : TEnv) (M : Mem) (P : Bool → Mem → Prop) (E : XKx) : Prop where
  run : ∀ W, Takes X W → ∀ σ G H, DenE X.K τ G σ → Hst X.K G M H → ∀ Q, CT' X.K G M H P Q → CX' X.K G M H E (fun c d H2 => W c d σ H2) → tWT X T e σ H Q
structure EA (X : Cx) (T : Bool) (es : List Expr) (τ : TEnv) (M : Mem) (P : List Dat → Mem → Prop) (E : XKx) : Prop where
  run : ∀ W, Takes X W → ∀ σ G H, DenE X.K τ G σ → Hst X.K G M H → ∀ Q, CA' X.K G M H P Q → CX' X.K G M H E (fun c d H2 => W c d σ H2) → tWA X T es σ H Q
structure WS (X : Cx) (T : Bool) (ss : List Stmt) (τ : TEnv) (M : Mem) (R : RK) : Prop where
  run : ∀ W, Takes X W → ∀ σ G H, DenE X.K τ G σ → Hst X.K G M H → ∀ D, CS' X.K G M H R D W → tWSs X T ss D σ H
/-- a value is stored at a target -/
structure GX (X : Cx) (T : Bool) (tg : Expr) (d : Dat) (τ : TEnv) (M : Mem) (P : TEnv → Mem → Prop) (E : XKx) : Prop where
  run : ∀ W, Takes X W → ∀ σ G H v, DenE X.K τ G σ → Hst X.K G M H → Den X.K G d v → ∀ Q, CG' X.K G M H P Q → CX' X.K G M H E (fun c d H2 => W c d σ H2) → tWG X T tg v σ H Q
/-- operations by values -/
def OP (X : Cx) (T : Bool) (f : Value → Value → Sem Value) (x y : Dat) (M : Mem) (P : PK') : Prop :=
  ∀ G H v u, Hst X.K G M H → Den X.K G x v → Den X.K G y u → ∀ Q, CE' X.K G M H P Q → rW X T f v u H Q
def BC (X : Cx) (f : Value) (ds : List Dat) (M : Mem) (P : PK') : Prop :=
  ∃ r, CallR X f r ∧ ∀ G H vs, Hst X.K G M H → DenL X.K G ds vs → ∀ Q, CE' X.K G M H P Q → r vs H Q
abbrev E0' : XKx := fun _ _ => False
theorem noX {K : PySem.W.Frag} {G H : Hp} {M : Mem} {T : Value → Option Addr → Hp → Prop} : CX' K G M H E0' T := fun _ _ _ _ _ h => h.elim

section
variable {X : Cx} {T : Bool} {τ : TEnv} {M : Mem} {P : PK'} {E : XKx} {e a b c : Expr} {es : List Expr} {pos : Pos}
/-- weakening -/
theorem EX.imp {P' : PK'} {E' : XKx} (h : EX X T e τ M P' E') (hp : ∀ d M2, P' d M2 → P d M2) (hx : ∀ x M2, E' x M2 → E x M2) : EX X T e τ M P E :=
  .mk fun W tk σ G H hE hH Q hP hX => h.run W tk σ G H hE hH Q (fun d M2 v G2 H2 p => hP d M2 v G2 H2 (hp _ _ p)) (fun x M2 G2 H2 d p => hX x M2 G2 H2 d (hx _ _ p))
theorem EX.nox (h : EX X T e τ M P E0') : EX X T e τ M P E := h.imp (fun _ _ p => p) fun _ _ p => p.elim
theorem ET.nox {P : Bool → Mem → Prop} (h : ET X T e τ M P E0') : ET X T e τ M P E := .mk fun W tk σ G H hE hH Q hP _ => h.run W tk σ G H hE hH Q hP noX
/-! ### names and constants -/
theorem ex_at {i : Nat} {x : Str} {d : Dat} (hN : X.N[i]? = some x) (hv : Vis X.env.scope x) (ht : τ[i]? = some (some d)) (h : P d M) (hd : (x == ("__debug__" : Str)) = false := by decide) (hcd : (x == ("__classdict__" : Str)) = false := by decide) :
    EX X T (.Name x pos) τ M P E := .mk fun W tk σ G H hE hH Q hP hX => by
  obtain ⟨v, h1, h2⟩ := hE i d ht
  exact tW_of (pe_var hN hv hd hcd) ⟨v, h1, hP d M v G H h Stp.refl hH h2⟩
/-- the place of a name -/
def ixIn (N : List Str) (x : Str) : Nat := N.findIdx (· == x)
theorem ex_var {x : Str} {d : Dat} (ht : X.N[ixIn X.N x]? = some x ∧ τ[ixIn X.N x]? = some (some d)) (h : P d M) (hv : Vis X.env.scope x := by first | exact Or.inl rfl | exact Or.inr (Or.inl rfl) | exact Or.inr (Or.inr rfl))
    (hd : (x == ("__debug__" : Str)) = false := by decide) (hcd : (x == ("__classdict__" : Str)) = false := by decide) : EX X T (.Name x pos) τ M P E := ex_at ht.1 hv ht.2 h hd hcd
theorem ex_c {v : V} {d : Dat} (hp : PE X e (tC v)) (hd : ∀ G, Den X.K G d v) (h : P d M) : EX X T e τ M P E := .mk fun W tk σ G H hE hH Q hP hX => tW_of hp (hP d M v G H h Stp.refl hH (hd G))
theorem ex_int {i j pos} (h : P (.int i) M) : EX X T (.Constant (.int i) j pos) τ M P E := ex_c pe_int (fun _ => den_int) h
theorem ex_bl {i j pos} (h : P (.bl i) M) : EX X T (.Constant (.bool i) j pos) τ M P E := ex_c pe_bl (fun _ => den_bl) h
theorem ex_non {j pos} (h : P .non M) : EX X T (.Constant .none j pos) τ M P E := ex_c pe_non (fun _ => den_non) h
theorem ex_str {i j pos} (h : P (.str i) M) : EX X T (.Constant (.str i) j pos) τ M P E := ex_c pe_str (fun _ => den_str) h
theorem ex_gstr {x : Str} {z : Str} {t : Tok} (hm : X.mg x = some (.str z t)) (h : P (.str z) M) (hg : Gl X x := by rfl) (hd : (x == ("__debug__" : Str)) = false := by decide) : EX X T (.Name x pos) τ M P E := ex_c (pe_glob (v := .str z) hg hm ⟨t, rfl⟩ hd) (fun _ => den_str) h
theorem ex_gref {x : Str} {q : Addr} (hm : X.mg x = some (.ref q)) (h : P (.raw (.ref q)) M) (hg : Gl X x := by rfl) (hd : (x == ("__debug__" : Str)) = false := by decide) : EX X T (.Name x pos) τ M P E := ex_c (pe_glob (v := .ref q) hg hm rfl hd) (fun _ => den_raw) h

/-! ### operators -/
theorem ex_bin {op : Operator} (h : EX X T a τ M (fun x M1 => EX X T b τ M1 (fun y M2 => OP X T (binaryOp op) x y M2 P) E) E) : EX X T (.BinOp a op b pos) τ M P E := by
  refine .mk ?_; intro W tk σ G H hE hH Q hP hX
  refine w_bin ?_
  refine h.run W tk σ G H hE hH _ ?_ hX
  intro x M1 v G1 H1 hb s1 h1 dx
  refine hb.run W tk σ G1 H1 (hE.up s1.gg) h1 _ ?_ (hX.step s1)
  intro y M2 u G2 H2 ho s2 h2 dy
  exact ho G2 H2 v u h2 (dx.up s2.gg) dy Q (hP.step (s1.trans s2))
theorem ex_cmp {op : CmpOp} (h : EX X T a τ M (fun x M1 => EX X T b τ M1 (fun y M2 => OP X T (compareOp op) x y M2 P) E) E) (hm : behindInMarks op b = false := by first | exact nomark _ | rfl) : EX X T (.Compare a [op] [b] pos) τ M P E := by
  refine .mk ?_; intro W tk σ G H hE hH Q hP hX
  refine w_cmp hm ?_
  refine h.run W tk σ G H hE hH _ ?_ hX
  intro x M1 v G1 H1 hb s1 h1 dx
  refine hb.run W tk σ G1 H1 (hE.up s1.gg) h1 _ ?_ (hX.step s1)
  intro y M2 u G2 H2 ho s2 h2 dy
  exact ho G2 H2 v u h2 (dx.up s2.gg) dy Q (hP.step (s1.trans s2))
theorem op_of {f : Value → Value → Sem Value} {r : R2} {x y : Dat} (ho : OpR X f r) (h : ∀ G H v u, Hst X.K G M H → Den X.K G x v → Den X.K G y u → ∀ Q, CE' X.K G M H P Q → r v u H Q) : OP X T f x y M P :=
  fun G H v u hH dx dy Q hP => rW_of ho (h G H v u hH dx dy Q hP)
theorem op_II {f : Value → Value → Sem Value} {g : Int → Int → V} {i j : Int} {d : Dat} (ho : OpR X f (rI0 g)) (hd : ∀ G, Den X.K G d (g i j)) (h : P d M) : OP X T f (.int i) (.int j) M P :=
  op_of ho fun G H v u hH dx dy Q hP => ⟨i, j, dx.int_inv, dy.int_inv, hP _ _ _ _ _ h Stp.refl hH (hd G)⟩
theorem op_IIc {f : Value → Value → Sem Value} {C : Int → Int → Prop} {g : Int → Int → V} {i j : Int} {d : Dat} (ho : OpR X f (rI C g)) (hc : C i j) (hd : ∀ G, Den X.K G d (g i j)) (h : P d M) : OP X T f (.int i) (.int j) M P :=
  op_of ho fun G H v u hH dx dy Q hP => ⟨i, j, dx.int_inv, dy.int_inv, hc, hP _ _ _ _ _ h Stp.refl hH (hd G)⟩
theorem o_add {i j : Int} (h : P (.int (i + j)) M) : OP X T (binaryOp .Add) (.int i) (.int j) M P := op_II op_add (fun _ => den_int) h
theorem o_sub {i j : Int} (h : P (.int (i - j)) M) : OP X T (binaryOp .Sub) (.int i) (.int j) M P := op_II op_sub (fun _ => den_int) h
theorem o_lt {i j : Int} (h : P (.bl (decide (i < j))) M) : OP X T (compareOp .Lt) (.int i) (.int j) M P := op_II op_lt (fun _ => den_bl) h
theorem o_le {i j : Int} (h : P (.bl (decide (i ≤ j))) M) : OP X T (compareOp .LtE) (.int i) (.int j) M P := op_II op_le (fun _ => den_bl) h
theorem o_gt {i j : Int} (h : P (.bl (decide (j < i))) M) : OP X T (compareOp .Gt) (.int i) (.int j) M P := op_II op_gt (fun _ => den_bl) h
/-! ### tests -/
theorem et_val {Pb : Bool → Mem → Prop} (h : EX X T e τ M (fun d M1 => ∃ k, d = .bl k ∧ Pb k M1) E) (he : ∀ whole, isTrue e X.env whole = (do let v ← whole; standAt e.pos; holding [v] (truthy v)) := by intro _; rfl) : ET X T e τ M Pb E := by
  refine .mk ?_; intro W tk σ G H hE hH Q hP hX
  refine w_val he ?_
  refine h.run W tk σ G H hE hH _ ?_ hX
  intro d M1 v G1 H1 ⟨k, ek, hk⟩ s1 h1 dv
  subst ek
  exact ⟨k, dv.bl_inv, hP k M1 G1 H1 hk s1 h1⟩
theorem et_cmp {op : CmpOp} {Pb : Bool → Mem → Prop} (h : EX X T a τ M (fun x M1 => EX X T b τ M1 (fun y M2 => OP X T (compareOp op) x y M2 fun d M3 => ∃ k, d = .bl k ∧ Pb k M3) E) E) (hm : behindInMarks op b = false := by first | exact nomark _ | rfl) :
    ET X T (.Compare a [op] [b] pos) τ M Pb E := by
  refine .mk ?_; intro W tk σ G H hE hH Q hP hX
  refine w_cmpT hm ?_
  refine h.run W tk σ G H hE hH _ ?_ hX
  intro x M1 v G1 H1 hb s1 h1 dx
  refine hb.run W tk σ G1 H1 (hE.up s1.gg) h1 _ ?_ (hX.step s1)
  intro y M2 u G2 H2 ho s2 h2 dy
  refine ho G2 H2 v u h2 (dx.up s2.gg) dy _ ?_
  intro d M3 w G3 H3 ⟨k, ek, hk⟩ s3 h3 dw
  subst ek
  exact ⟨k, dw.bl_inv, hP k M3 G3 H3 hk ((s1.trans s2).trans s3) h3⟩
theorem et_not {Pb : Bool → Mem → Prop} (h : ET X T a τ M (fun k M1 => Pb (!k) M1) E) : ET X T (.UnaryOp .Not a pos) τ M Pb E := by
  refine .mk ?_; intro W tk σ G H hE hH Q hP hX
  refine w_not ?_
  refine h.run W tk σ G H hE hH _ ?_ hX
  intro k M1 G1 H1 hk s1 h1
  exact hP _ M1 G1 H1 hk s1 h1
/-- and, or: the rest -/
structure EW (X : Cx) (T : Bool) (e : Expr) (τ : TEnv) (M : Mem) (P : Bool → Mem → Prop) (E : XKx) : Prop where
  run : ∀ W, Takes X W → ∀ σ G H, DenE X.K τ G σ → Hst X.K G M H → ∀ Q, CT' X.K G M H P Q → CX' X.K G M H E (fun c d H2 => W c d σ H2) → tWW X T e σ H Q
theorem ew_and1 {Pb : Bool → Mem → Prop} (h : ET X T a τ M Pb E) : EW X T (.BoolOp .And [a] pos) τ M Pb E := .mk fun W tk σ G H hE hH Q hP hX => w_and1 (h.run W tk σ G H hE hH Q hP hX)
theorem ew_or1 {Pb : Bool → Mem → Prop} (h : ET X T a τ M Pb E) : EW X T (.BoolOp .Or [a] pos) τ M Pb E := .mk fun W tk σ G H hE hH Q hP hX => w_or1 (h.run W tk σ G H hE hH Q hP hX)
theorem ew_and {Pb : Bool → Mem → Prop} {rest : List Expr} (h : ET X T a τ M (fun k M1 => (k = true → EW X T (.BoolOp .And (b :: rest) pos) τ M1 Pb E) ∧ (k = false → Pb false M1)) E) : EW X T (.BoolOp .And (a :: b :: rest) pos) τ M Pb E := by
  refine .mk ?_; intro W tk σ G H hE hH Q hP hX
  refine w_and ?_
  refine h.run W tk σ G H hE hH _ ?_ hX
  intro k M1 G1 H1 ⟨h1, h2⟩ s1 hs1
  cases k with
  | true => exact iteT ((h1 rfl).run W tk σ G1 H1 (hE.up s1.gg) hs1 Q (hP.step s1) (hX.step s1))
  | false => exact iteF (hP _ _ _ _ (h2 rfl) s1 hs1)
theorem ew_or {Pb : Bool → Mem → Prop} {rest : List Expr} (h : ET X T a τ M (fun k M1 => (k = true → Pb true M1) ∧ (k = false → EW X T (.BoolOp .Or (b :: rest) pos) τ M1 Pb E)) E) : EW X T (.BoolOp .Or (a :: b :: rest) pos) τ M Pb E := by
  refine .mk ?_; intro W tk σ G H hE hH Q hP hX
  refine w_or ?_
  refine h.run W tk σ G H hE hH _ ?_ hX
  intro k M1 G1 H1 ⟨h1, h2⟩ s1 hs1
  cases k with
  | true => exact iteT (hP _ _ _ _ (h1 rfl) s1 hs1)
  | false => exact iteF ((h2 rfl).run W tk σ G1 H1 (hE.up s1.gg) hs1 Q (hP.step s1) (hX.step s1))
theorem et_w {Pb : Bool → Mem → Prop} (h : EW X T e τ M Pb E) : ET X T e τ M Pb E := .mk fun W tk σ G H hE hH Q hP hX => by
  have := h.run W tk σ G H hE hH Q hP hX
  exact fun pins s k I => this _ pins s k I
theorem ET.imp {P P' : Bool → Mem → Prop} {E' : XKx} (h : ET X T e τ M P' E') (hp : ∀ d M2, P' d M2 → P d M2) (hx : ∀ x M2, E' x M2 → E x M2) : ET X T e τ M P E :=
  .mk fun W tk σ G H hE hH Q hP hX => h.run W tk σ G H hE hH Q (fun d M2 G2 H2 p => hP d M2 G2 H2 (hp _ _ p)) (fun x M2 G2 H2 d p => hX x M2 G2 H2 d (hx _ _ p))
/-- as values -/
theorem ex_and1 {op} (h : EX X T a τ M P E) : EX X T (.BoolOp op [a] pos) τ M P E := .mk fun W tk σ G H hE hH Q hP hX => v_one (h.run W tk σ G H hE hH Q hP hX)
theorem ex_and {rest : List Expr} (h : EX X T a τ M (fun d M1 => ∃ k, d = .bl k ∧ (k = true → EX X T (.BoolOp .And (b :: rest) pos) τ M1 P E) ∧ (k = false → P (.bl false) M1)) E) : EX X T (.BoolOp .And (a :: b :: rest) pos) τ M P E := by
  refine .mk ?_; intro W tk σ G H hE hH Q hP hX
  refine v_and ?_
  refine h.run W tk σ G H hE hH _ ?_ hX
  intro d M1 v G1 H1 ⟨k, ek, h1, h2⟩ s1 hs1 dv
  subst ek
  refine ⟨k, dv.bl_inv, ?_⟩
  cases k with
  | true => exact iteT ((h1 rfl).run W tk σ G1 H1 (hE.up s1.gg) hs1 Q (hP.step s1) (hX.step s1))
  | false => exact iteF (hP _ _ _ _ _ (h2 rfl) s1 hs1 den_bl)
theorem ex_not (h : EX X T a τ M (fun d M1 => ∃ k, d = .bl k ∧ P (.bl (!k)) M1) E) : EX X T (.UnaryOp .Not a pos) τ M P E := by
  refine .mk ?_; intro W tk σ G H hE hH Q hP hX
  refine v_not ?_
  refine h.run W tk σ G H hE hH _ ?_ hX
  intro d M1 v G1 H1 ⟨k, ek, h1⟩ s1 hs1 dv
  subst ek
  exact ⟨k, dv.bl_inv, hP _ _ _ _ _ h1 s1 hs1 den_bl⟩
theorem ex_if {t : Expr} (h : ET X T t τ M (fun k M1 => (k = true → EX X T a τ M1 P E) ∧ (k = false → EX X T b τ M1 P E)) E) : EX X T (.IfExp t a b pos) τ M P E := by
  refine .mk ?_; intro W tk σ G H hE hH Q hP hX
  refine v_if ?_
  refine h.run W tk σ G H hE hH _ ?_ hX
  intro k M1 G1 H1 ⟨h1, h2⟩ s1 hs1
  cases k with
  | true => exact iteT ((h1 rfl).run W tk σ G1 H1 (hE.up s1.gg) hs1 Q (hP.step s1) (hX.step s1))
  | false => exact iteF ((h2 rfl).run W tk σ G1 H1 (hE.up s1.gg) hs1 Q (hP.step s1) (hX.step s1))

/-! ### arguments, displays -/
theorem ea_nil {P : List Dat → Mem → Prop} (h : P [] M) : EA X T [] τ M P E := .mk fun W tk σ G H hE hH Q hP hX => tWA_of pa_nil (hP _ _ _ _ _ h Stp.refl hH .nil)
theorem ea_cons {P : List Dat → Mem → Prop} (h : EX X T e τ M (fun d M1 => EA X T es τ M1 (fun ds M2 => P (d :: ds) M2) E) E) (hs : starEach (e :: es) X.env = (false, eval e X.env) :: starEach es X.env := by rfl) : EA X T (e :: es) τ M P E := by
  refine .mk ?_; intro W tk σ G H hE hH Q hP hX
  refine wa_cons hs ?_
  refine h.run W tk σ G H hE hH _ ?_ hX
  intro d M1 v G1 H1 hb s1 h1 dv
  refine hb.run W tk σ G1 H1 (hE.up s1.gg) h1 _ ?_ (hX.step s1)
  intro ds M2 vs G2 H2 ho s2 h2 dvs
  exact hP (d :: ds) M2 (v :: vs) G2 H2 ho (s1.trans s2) h2 (.cons (dv.up s2.gg) dvs)
theorem v_tup {x1} {σ : L2.St} {H : Hp} {Q : VK} (q : tWA X T es σ H fun xs H1 => xs.length ≤ sizeLine ∧ ∀ p, H1 p = none → Q (.ref p) (upd H1 p (.tup xs))) : tW X T (.Tuple es x1 pos) σ H Q := fun pins s k I =>
  wpAny_Tuple_spliced (thn (q pos pins s k I) fun us s1 ⟨xs, H1, I1, r, z, q1⟩ => ⟨by rw [← r.length]; exact z, by
    have hf : H1 s1.heap.objs.size = none := I1.hok.fresh (Nat.le_refl _)
    exact ⟨.ref s1.heap.objs.size, upd H1 s1.heap.objs.size (.tup xs), I1.laid (t' := s1.toks) (fun b u e => Heap.get?_push_of_some _ e) (Nat.le_refl _) ⟨z, us, r, ⟨_, Heap.get?_push_size _ rfl, rfl, _, rfl⟩⟩, rfl, q1 _ hf⟩⟩)
theorem v_lst {σ : L2.St} {H : Hp} {Q : VK} (q : tWA X T es σ H fun xs H1 => xs.length ≤ sizeLine ∧ ∀ p, H1 p = none → Q (.ref p) (upd H1 p (.lst xs))) : tW X T (.List es pos) σ H Q := fun pins s k I =>
  wpAny_List_spliced (thn (q pos pins s k I) fun us s1 ⟨xs, H1, I1, r, z, q1⟩ => ⟨by rw [← r.length]; exact z, by
    have hf : H1 s1.heap.objs.size = none := I1.hok.fresh (Nat.le_refl _)
    exact ⟨.ref s1.heap.objs.size, upd H1 s1.heap.objs.size (.lst xs), I1.laid (t' := s1.toks) (fun b u e => Heap.get?_push_of_some _ e) (Nat.le_refl _) ⟨z, us, 0, r, Heap.get?_push_size _ rfl⟩, rfl, q1 _ hf⟩⟩)
theorem ex_tup {x1} (h : EA X T es τ M (fun ds M1 => ds.length ≤ sizeLine ∧ P (.tup ds) M1) E) : EX X T (.Tuple es x1 pos) τ M P E := by
  refine .mk ?_; intro W tk σ G H hE hH Q hP hX
  refine v_tup ?_
  refine h.run W tk σ G H hE hH _ ?_ hX
  intro ds M1 vs G1 H1 ⟨hl, hp⟩ s1 h1 dvs
  refine ⟨by rw [dvs.length]; exact hl, fun p hp' => ?_⟩
  obtain ⟨s2, h2⟩ := Stp.new (o := .tup vs) h1 hp'
  exact hP _ _ _ _ _ hp (s1.trans s2) h2 (den_tup upd_same (dvs.up s2.gg))
theorem ex_lst (h : EA X T es τ M (fun ds M1 => ds.length ≤ sizeLine ∧ P (.lst ds) M1) E) : EX X T (.List es pos) τ M P E := by
  refine .mk ?_; intro W tk σ G H hE hH Q hP hX
  refine v_lst ?_
  refine h.run W tk σ G H hE hH _ ?_ hX
  intro ds M1 vs G1 H1 ⟨hl, hp⟩ s1 h1 dvs
  refine ⟨by rw [dvs.length]; exact hl, fun p hp' => ?_⟩
  obtain ⟨s2, h2⟩ := Stp.new (o := .lst vs) h1 hp'
  exact hP _ _ _ _ _ hp (s1.trans s2) h2 (den_lst upd_same (dvs.up s2.gg))
/-! ### calls of built-ins -/
theorem ex_callB {x : Str} {p : Pos} {id : String} (hm : X.mg x = none) (hv : bootBuiltins x = some (.builtin id)) (h : EA X T (e :: es) τ M (fun ds M1 => BC X (.builtin id) ds M1 P) E) (hg : Gl X x := by rfl) (hn : x ≠ "__name__" := by decide) (hdb : (x == ("__debug__" : Str)) = false := by decide)
    (he : starEach (e :: es) X.env = (false, eval e X.env) :: starEach es X.env := by rfl) (hpl : (backTo pos (starEach es X.env)).any (·.1) = false := by rfl) : EX X T (.Call (.Name x p) (e :: es) [] pos) τ M P E := by
  refine .mk ?_; intro W tk σ G H hE hH Q hP hX pins s k I
  have hA := h.run W tk σ G H hE hH (fun vs H1 => ∃ r, CallR X (.builtin id) r ∧ r vs H1 Q) (fun ds M1 vs G1 H1 ⟨r, hr, hb⟩ s1 h1 dvs => ⟨r, hr, hb G1 H1 vs h1 dvs Q (hP.step s1)⟩) hX
  refine wpAny_Call_Name_kw (ld_blt I hg hm hv ?_ hn hdb)
  exact PyProof.Rows.callWith_builtin1 (thn (hA pos pins s k I) fun us s1 ⟨vs, H1, I1, r1, r, hr, q1⟩ => hr pins s1 σ H1 vs us Q I1 r1 q1) he hpl
theorem ex_callTy {x : Str} {p : Pos} {T' : String} (hm : X.mg x = none) (hv : bootBuiltins x = some (.type T')) (h : EA X T (e :: es) τ M (fun ds M1 => BC X (.type T') ds M1 P) E) (hg : Gl X x := by rfl) (hn : x ≠ "__name__" := by decide) (hdb : (x == ("__debug__" : Str)) = false := by decide)
    (he : starEach (e :: es) X.env = (false, eval e X.env) :: starEach es X.env := by rfl) (hpl : (backTo pos (starEach es X.env)).any (·.1) = false := by rfl) : EX X T (.Call (.Name x p) (e :: es) [] pos) τ M P E := by
  refine .mk ?_; intro W tk σ G H hE hH Q hP hX pins s k I
  have hA := h.run W tk σ G H hE hH (fun vs H1 => ∃ r, CallR X (.type T') r ∧ r vs H1 Q) (fun ds M1 vs G1 H1 ⟨r, hr, hb⟩ s1 h1 dvs => ⟨r, hr, hb G1 H1 vs h1 dvs Q (hP.step s1)⟩) hX
  refine wpAny_Call_Name_kw (ld_blt I hg hm hv ?_ hn hdb)
  exact PyProof.Rows.callWith_type1 (thn (hA pos pins s k I) fun us s1 ⟨vs, H1, I1, r1, r, hr, q1⟩ => hr pins s1 σ H1 vs us Q I1 r1 q1) he hpl
end

/-! ### statements -/
/-- what follows the statements of a suite -/
def thenR (k : TEnv → Mem → Prop) (R : RK) : RK
  | .nx τ, M => k τ M
  | o, M => R o M
/-- a loop's body -/
def loopR (N k : TEnv → Mem → Prop) (R : RK) : RK
  | .nx τ, M => N τ M
  | .ct τ, M => N τ M
  | .bk τ, M => k τ M
  | .rt d, M => R (.rt d) M
  | .ex x τ, M => R (.ex x τ) M
section
variable {X : Cx} {T : Bool} {τ : TEnv} {M : Mem} {R : RK} {e a b c : Expr} {es : List Expr} {pos : Pos} {rest : List Stmt}
theorem ex_out {K : PySem.W.Frag} {G H : Hp} {D : Ends} {W : WX} {σ : L2.St} (hP : CS' K G M H R D W) (hE : DenE K τ G σ) : CX' K G M H (fun x M' => R (.ex x τ) M') (fun c d H2 => W c d σ H2) :=
  fun x M2 G2 H2 d r s h dx => hP _ _ _ _ r s h σ d (hE.up s.gg) dx
theorem ws_nil (h : R (.nx τ) M) : WS X T [] τ M R := .mk fun W tk σ G H hE hH D hR => tWSs_of pss_nil (hR _ _ _ _ h Stp.refl hH σ hE)
/-- a statement by its own rule, the rest behind it -/
theorem ws_step {st : Stmt} {t : TS} {D : Ends} {σ : L2.St} {H : Hp} (h : PS X st t) (q : t { D with nx := tWSs X T rest D } σ H) : tWSs X T (st :: rest) D σ H := ws_step' (tWS_of h q)
theorem ws_ret (h : EX X T e τ M (fun d M1 => R (.rt d) M1) (fun x M1 => R (.ex x τ) M1)) : WS X T (.Return (some e) pos :: rest) τ M R := .mk fun W tk σ G H hE hH D hR =>
  ws_step' (s_ret <| h.run W tk σ G H hE hH _ (fun d M2 v G2 H2 r s h2 dv => hR _ _ _ _ r s h2 v dv) (ex_out hR hE))
theorem ws_expr (h : EX X T e τ M (fun _ M1 => WS X T rest τ M1 R) (fun x M1 => R (.ex x τ) M1)) (hs : swapsWith e none pos.line X.env = pure false := by rfl) : WS X T (.Expr e pos :: rest) τ M R := .mk fun W tk σ G H hE hH D hR =>
  ws_step' (s_expr hs <| h.run W tk σ G H hE hH _ (fun d M2 v G2 H2 r s h2 dv => r.run W tk σ G2 H2 (hE.up s.gg) h2 D (hR.step s)) (ex_out hR hE))
/-- x = e -/
theorem ws_set {x : Str} {p : Pos} (h : EX X T e τ M (fun d M1 => WS X T rest (τ.set (ixIn X.N x) (some d)) M1 R) (fun x M1 => R (.ex x τ) M1)) (hi : X.N[ixIn X.N x]? = some x := by rfl) (hx : Loc X.env.scope x := by first | exact Or.inl rfl | exact Or.inr rfl) (hN : X.N.Nodup := by first | decide +kernel | exact of_decide_eq_true (by kernel_rfl))
    (hs : swapsWith e (some (.Name x p)) pos.line X.env = pure false := by rfl) (hf : X.fn x = true ∨ X.env.scope.names.lookup x = some .local := by first | exact .inl rfl | exact .inr rfl | assumption) : WS X T (.Assign [.Name x p] e pos :: rest) τ M R := .mk fun W tk σ G H hE hH D hR => tWSs_len fun hl =>
  ws_step' (s_set hN hi hx hs hf <| h.run W tk σ G H hE hH _ (fun d M2 v G2 H2 r s h2 dv => by
    have hlt : ixIn X.N x < σ.length := by rw [hl]; exact (List.getElem?_eq_some_iff.mp hi).1
    exact r.run W tk _ G2 H2 ((hE.up s.gg).set hlt dv) h2 D (hR.step s)) (ex_out hR hE))
theorem ws_if {t : Expr} {p q : List Stmt} (h : ET X T t τ M (fun k M1 => (k = true → WS X T p τ M1 (thenR (fun τ' M' => WS X T rest τ' M' R) R)) ∧ (k = false → WS X T q τ M1 (thenR (fun τ' M' => WS X T rest τ' M' R) R))) (fun x M1 => R (.ex x τ) M1)) :
    WS X T (.If t p q pos :: rest) τ M R := .mk fun W tk σ G H hE hH D hR => by
  refine ws_step' (s_if ?_)
  refine h.run W tk σ G H hE hH _ ?_ (ex_out hR hE)
  intro k M1 G1 H1 ⟨h1, h2⟩ s1 hs1
  have fin : CS' X.K G1 M1 H1 (thenR (fun τ' M' => WS X T rest τ' M' R) R) { D with nx := tWSs X T rest D } W := fun o M2 G2 H2 r s2 hs2 => by
    cases o with
    | nx τ' => exact fun σ' hE' => r.run W tk σ' G2 H2 hE' hs2 D (hR.step (s1.trans s2))
    | rt d => exact hR _ _ _ _ r (s1.trans s2) hs2
    | bk τ' => exact hR _ _ _ _ r (s1.trans s2) hs2
    | ct τ' => exact hR _ _ _ _ r (s1.trans s2) hs2
    | ex x τ' => exact hR _ _ _ _ r (s1.trans s2) hs2
  cases k with
  | true => exact iteT ((h1 rfl).run W tk σ G1 H1 (hE.up s1.gg) hs1 _ fin)
  | false => exact iteF ((h2 rfl).run W tk σ G1 H1 (hE.up s1.gg) hs1 _ fin)
/-- tg = e, any target -/
theorem ws_asg {tg : Expr} (h : EX X T e τ M (fun d M1 => GX X T tg d τ M1 (fun τ2 M2 => WS X T rest τ2 M2 R) (fun x M2 => R (.ex x τ) M2)) (fun x M1 => R (.ex x τ) M1))
    (hs : swapsWithSole [tg] e pos.line X.env = pure false := by rfl) (hw : swappedStores [tg] e X.env = pure none := by rfl) (h1 : (assignEach [tg] X.env).map (·.2) = [assign tg X.env] := by rfl) : WS X T (.Assign [tg] e pos :: rest) τ M R := .mk fun W tk σ G H hE hH D hR =>
  ws_step' (s_asg hs hw h1 <| h.run W tk σ G H hE hH _ (fun d M2 v G2 H2 r s h2 dv =>
    r.run W tk σ G2 H2 v (hE.up s.gg) h2 dv _ (fun τ3 M3 G3 H3 σ3 r3 s3 h3 e3 => r3.run W tk σ3 G3 H3 e3 h3 D (hR.step (s.trans s3))) ((ex_out hR hE).step s)) (ex_out hR hE))
/-! ### targets -/
theorem gx_name {x : Str} {p : Pos} {d : Dat} {P : TEnv → Mem → Prop} {E : XKx} (h : P (τ.set (ixIn X.N x) (some d)) M) (hi : X.N[ixIn X.N x]? = some x := by rfl) (hx : Loc X.env.scope x := by first | exact Or.inl rfl | exact Or.inr rfl) (hN : X.N.Nodup := by first | decide +kernel | exact of_decide_eq_true (by kernel_rfl))
    (hf : X.fn x = true ∨ X.env.scope.names.lookup x = some .local := by first | exact .inl rfl | exact .inr rfl | assumption) : GX X T (.Name x p) d τ M P E := .mk fun W tk σ G H v hE hH dv Q hP hX => tWG_len fun hl => by
  refine tWG_of (pg_name hN hi hx hf) ?_
  have hlt : ixIn X.N x < σ.length := by rw [hl]; exact (List.getElem?_eq_some_iff.mp hi).1
  exact hP _ _ _ _ _ h Stp.refl hH (hE.set hlt dv)
end
end Kh

set_option Elab.async false
set_option linter.all false
set_option maxRecDepth 100000
set_option maxHeartbeats 1000000
namespace Kh
open PySem PySem.Spec L2
open PyProof.Rows (isTrue_plain)

/-! ### what a def promises -/
/-- the arguments, the cells it is told of; what is wanted of its value and the cells behind it; of what it lets out -/
abbrev Spc := List Dat → Mem → PK' → XKx → Prop
def toSp (K : PySem.W.Frag) (S : Spc) : Sp := fun vs H Q E => ∃ G ds M P PE, DenL K G ds vs ∧ Hst K G M H ∧ S ds M P PE ∧ CE' K G M H P Q ∧ CX' K G M H PE E
abbrev FnD (P : Program) (w : World) (K : PySem.W.Frag) (mg : Str → Option Value) (base : Heap) (k : Nat) (f : Addr) (fd : FuncData) (ps : List Str) (S : Spc) : Prop := FnOk P w K mg base (L2.CX P w) k f fd ps (toSp K S)
/-- a part of the cells is handed to the def, the rest stays -/
def AP (S : Spc) (ds : List Dat) (M : Mem) (P : PK') (E : XKx) : Prop :=
  ∃ Mc Mr, M.Perm (Mc ++ Mr) ∧ S ds Mc (fun d Mc2 => ∃ M2, (Mc2 ++ Mr).Perm M2 ∧ P d M2) (fun x Mc2 => ∃ M2, (Mc2 ++ Mr).Perm M2 ∧ E x M2)
theorem ap_toSp {K : PySem.W.Frag} {S : Spc} {ds : List Dat} {M : Mem} {P : PK'} {E : XKx} {G H : Hp} {vs : List V} {Q : VK} {T : XK} (h : AP S ds M P E) (dv : DenL K G ds vs) (hH : Hst K G M H) (hP : CE' K G M H P Q) (hX : CX' K G M H E T) : toSp K S vs H Q T := by
  obtain ⟨Mc, Mr, pm, hs⟩ := h
  have hH' := hH.perm pm
  refine ⟨G, ds, Mc, _, _, dv, hH'.left, hs, ?_, ?_⟩
  · intro d Mc2 v G2 H2 ⟨M2, p2, hp⟩ s h2 dd
    obtain ⟨s3, h3⟩ := Stp.frame hH' s h2
    exact hP d M2 v G2 H2 hp (s3.perm pm.symm p2) (h3.perm p2) dd
  · intro x Mc2 G2 H2 d ⟨M2, p2, hp⟩ s h2 dd
    obtain ⟨s3, h3⟩ := Stp.frame hH' s h2
    exact hX x M2 G2 H2 d hp (s3.perm pm.symm p2) (h3.perm p2) dd

/-- the ends of a def -/
def retR (P : PK') (E : XKx) : RK
  | .rt d, M => P d M
  | .nx _, M => P .non M
  | .ex x _, M => E x M
  | _, _ => False
def startT (N : List Str) (ds : List Dat) : TEnv := ds.map some ++ List.replicate (N.length - ds.length) none
theorem denE_start {K : PySem.W.Frag} {G : Hp} {N : List Str} {ds : List Dat} {vs : List V} (h : DenL K G ds vs) : DenE K (startT N ds) G (L2.start N vs) := fun i d e => by
  unfold startT at e
  have hi : i < ds.length := by
    by_cases hi : i < ds.length
    · exact hi
    · rw [List.getElem?_append_right (by simpa using hi), List.getElem?_replicate] at e
      split at e <;> cases e
  rw [List.getElem?_append_left (by simpa using hi), List.getElem?_map] at e
  cases q : ds[i]? with
  | none => rw [q] at e; cases e
  | some d' =>
    rw [q] at e; cases e
    obtain ⟨v, h1, h2⟩ := h.get q
    refine ⟨v, ?_, h2⟩
    unfold L2.start
    rw [List.getElem?_append_left (by rw [List.length_map, h.length]; exact hi), List.getElem?_map, h1]
    rfl
theorem cs_ret {K : PySem.W.Frag} {G H : Hp} {M : Mem} {P : PK'} {E : XKx} {Q : VK} {W : WX} (hP : CE' K G M H P Q) (hX : CX' K G M H E (fun c d H2 => ∀ σ, W c d σ H2)) : CS' K G M H (retR P E) { nx := fun _ H' => Q .non H', rt := Q } W := fun o M2 G2 H2 r s h => by
  cases o with
  | nx τ => exact fun σ _ => hP _ _ _ _ _ r s h den_non
  | rt d => exact fun v dv => hP _ _ _ _ _ r s h dv
  | bk τ => exact r.elim
  | ct τ => exact r.elim
  | ex x τ => exact fun σ d _ dx => hX _ _ _ _ _ r s h dx σ
section
variable {P : Program} {w : World} {K : PySem.W.Frag} {mg : Str → Option Value} {base : Heap}
/-- binding parameters, one of them a local: a token is out behind it -/
theorem bind_toks {M : Model} {A : Around} {E : Value → Shared → Prop} {s₀ : Shared} {env : Env} (f : Str × Value → PUnit → Sem (ForInStep PUnit)) (hf : ∀ n v u, f (n, v) u = (do storeName env n v; pure (.yield ⟨⟩))) (hk : env.scope.kind = .function) :
    ∀ (bs : List (Str × Value)) (m cm : Str → Option Value) (s : Shared) (Q : PUnit → Shared → Prop), InCallC s₀ env.locals m env.cells cm s →
      (∀ x ∈ bs, env.kindOf x.1 = some .local ∨ (env.kindOf x.1 = some .cell ∧ (env.cells.lookup x.1).isSome = true)) → (∃ x ∈ bs, env.kindOf x.1 = some .local) →
      (∀ s', 1 ≤ s'.toks → InCallC s₀ env.locals (bindL env.kindOf bs m) env.cells (bindC env.kindOf bs cm) s' → Q ⟨⟩ s') → wpAny M A (forIn bs ⟨⟩ f) Q E s
  | [], m, cm, s, Q, x, _, ⟨y, hy, _⟩, h => by cases hy
  | (n, v) :: r, m, cm, s, Q, x, kinds, he, h => by
    rw [List.forIn_cons, hf]
    have kr : ∀ y ∈ r, env.kindOf y.1 = some .local ∨ (env.kindOf y.1 = some .cell ∧ (env.cells.lookup y.1).isSome = true) := fun y hy => kinds y (List.mem_cons_of_mem _ hy)
    rcases kinds (n, v) List.mem_cons_self with hl | ⟨hl, hc⟩
    · refine wpAny_bind (wpAny_bind (wpAny_storeName_local hl x.toInCall.ns (fun h' hn' hs' => wpAny_pure ?_) (by rw [hk]; rfl)))
      have x' : InCallC s₀ env.locals (fun y => if y = n then some v else m y) env.cells cm { s with heap := h', toks := s.toks + 1 } := by
        refine ⟨⟨?_, hn', fun b o e => ?_, x.toInCall.fresh⟩, fun k c hc => ?_, x.apart, x.above⟩
        · obtain ⟨h₁, tk, rfl⟩ := x.toInCall.same
          exact ⟨h', _, rfl⟩
        · exact hs'.extBut b o (Nat.ne_of_lt (Nat.lt_of_lt_of_le (Heap.lt_size e) x.toInCall.fresh)) (x.toInCall.keep b o e)
        · exact (x.cell k c hc).sameBut hs' (Nat.ne_of_gt (x.above k c (mem_of_lookup hc)))
      refine wpAny_with_toks (n := 1) (show 1 ≤ s.toks + 1 by omega) ?_
      refine wpAny_mono (E := fun e s' => E e s') (wpAny_bindParams f hf hk r _ _ _ (fun u s'' => 1 ≤ s''.toks → Q u s'') x' kr fun s'' x'' k => h s'' k ?_) (fun _ _ q => q) fun _ _ q _ => q
      unfold bindL bindC; rw [if_pos hl, if_pos hl]; exact x''
    · obtain ⟨c, hc⟩ := Option.isSome_iff_exists.mp hc
      have hnl : ¬ env.kindOf n = some .local := by rw [hl]; decide
      have hr : ∃ y ∈ r, env.kindOf y.1 = some .local := by
        obtain ⟨y, hy, hy2⟩ := he
        rcases List.mem_cons.mp hy with rfl | hy
        · exact absurd hy2 hnl
        · exact ⟨y, hy, hy2⟩
      refine wpAny_bind (wpAny_bind (stCC x hk hl hc fun s' x' => wpAny_pure (bind_toks f hf hk r _ _ s' Q x' kr hr fun s'' k x'' => h s'' k ?_)))
      unfold bindL bindC; rw [if_neg hnl, if_neg hnl]; exact x''
theorem newEnv_toks {M : Model} {A : Around} {E : Value → Shared → Prop} {s : Shared} {scope : Scope} {globals : Addr} {bs : List (Str × Value)} {qual : Str} {func : Option Addr} {code : Value} {builtins : Addr} {Q : Env → Shared → Prop}
    (hk : scope.kind = .function)
    (kinds : ∀ x ∈ bs, scope.names.lookup x.1 = some .local ∨ (scope.names.lookup x.1 = some .cell ∧ ((cellsFrom (s.heap.objs.size + 1) scope.names []).lookup x.1).isSome = true)) (he : ∃ x ∈ bs, scope.names.lookup x.1 = some .local)
    (hQ : ∀ env, env = newEnv scope s.heap.objs.size globals (cellsFrom (s.heap.objs.size + 1) scope.names []) qual func code none builtins →
      ∀ s', 1 ≤ s'.toks → InCallC s env.locals (bindL env.kindOf bs fun _ => none) env.cells (bindC env.kindOf bs fun _ => none) s' → Q env s') :
    wpAny M A (newFunctionEnv scope globals [] bs qual func code none builtins) Q E s := by
  simp only [newFunctionEnv, Option.isSome_none, Bool.false_eq_true, if_false]
  refine wpAny_bind (wpAny_alloc (wpAny_bind (wpAny_layCells _ (fun name kind cells => by cases hkc : kind == NameKind.cell <;> simp [hkc]) _ _ _ _ ?_)))
  have ok := cellsFrom_ok scope.names (s.heap.push { cls := .type "frame", data := .dict #[] }) (s.heap.objs.size + 1) [] ⟨fun _ _ hm => (nomatch hm), List.Pairwise.nil⟩ (by rw [Heap.size_push]; exact Nat.le_refl _)
  rw [Heap.size_push] at ok
  rw [show ({ s with heap := s.heap.push { cls := .type "frame", data := .dict #[] } } : Shared).heap.objs.size = s.heap.objs.size + 1 from Heap.size_push ..]
  exact wpAny_bind (bind_toks (s₀ := s) (env := newEnv scope s.heap.objs.size globals (cellsFrom (s.heap.objs.size + 1) scope.names []) qual func code none builtins) _ (fun _ _ _ => rfl) hk bs (fun _ => none) (fun _ => none) _ _
    ⟨⟨⟨_, _, rfl⟩, (Heap.Ns.new s.heap (.type "frame")).keeps (pushCells_keeps _ _), fun b o e => pushCells_keeps _ _ b o (Heap.get?_push_of_some _ e), Nat.le_refl _⟩, fun n c hc => (ok.empty n c (mem_of_lookup hc)).1, ok.apart, fun n c hm => (ok.empty n c hm).2⟩
    kinds he fun s' k x => wpAny_pure (hQ _ rfl s' k x))
/-- a body, at its entry: with T where a parameter is a local -/
theorem fn_w {CX : CXT} {k : Nat} {f : Addr} {name qual : Str} {params : Arguments} {body : List Stmt} {scope : Scope} {dV kV doc pm cdv ct oc : Value} {an od : Option Addr} {T : Bool}
    {osl : Array (Option Value)} {N ps : List Str} {sp : Sp} (lk : K.lookup f = some ⟨oc, od, .func (PySem.W.fnOf name qual params body scope dV kV doc pm an cdv ct), osl⟩) (hcd : PySem.W.codeIn K cdv qual = true) (S : FnScope N ps scope) (hT : T = true → ∃ x ∈ ps, scope.names.lookup x = some .local)
    (len : ∀ vs H Q E, sp vs H Q E → vs.length = ps.length)
    (hbody : ∀ (A : Around) (outer : List Env) (s : Shared) (H : Hp) (vs : List V) (Q : VK) (E : XK), Room k (A.deeper (PyProof.Rows.envOfC qual scope s.heap.objs.size f cdv)) → sp vs H Q E →
      tWSs (cxOf CX P w K mg base N qual scope f cdv A outer s H E) T body { nx := fun _ H' => Q .non H', rt := Q } (L2.start N vs) H) :
    FnOk P w K mg base CX (k + 1) f (PySem.W.fnOf name qual params body scope dV kV doc pm an cdv ct) ps sp := by
  refine ⟨len, fun A outer s H args us vs Q E hr e0 hb r hsp => ?_⟩
  have hl := len _ _ _ _ hsp
  have KX : K.In s.heap := e0.mod.kin.keeps fun b o e => (e0.bs b o e).1
  have lim : s.heap.NoLimit := e0.mod.nolimit.keeps fun b o e => (e0.bs b o e).1
  have kinds : ∀ y ∈ ps.zip us, scope.names.lookup y.1 = some .local ∨ (scope.names.lookup y.1 = some .cell ∧ ((cellsFrom (s.heap.objs.size + 1) scope.names []).lookup y.1).isSome = true) := fun ⟨n, v⟩ hy => by
    rcases S.par n (List.of_mem_zip hy).1 with q | q
    · exact .inl q
    · exact .inr ⟨q, PySem.W.cellsFrom_some _ _ _ (.inl q)⟩
  refine codeAny_call_function hr.depth (KX _ _ lk) rfl S.co S.gen rfl (PySem.W.codeRec_of KX hcd) (hb _ _ _ _ ?_)
  have main : ∀ env, env = newEnv scope s.heap.objs.size mainGlobals (cellsFrom (s.heap.objs.size + 1) scope.names []) (qual ++ ".<locals>.") (some f) cdv none builtinsNs → ∀ s1, Tk T s1 → InCallC s env.locals (bindL env.kindOf (ps.zip us) fun _ => none) env.cells (bindC env.kindOf (ps.zip us) fun _ => none) s1 →
      s1.heap.NoLimit ∧ codeAny (model P w) A (.func body env) (CR CX outer P w H s Q E) s1 := by
    intro env he s1 hk x
    subst he
    refine ⟨lim.keeps x.toInCall.keep, codeAny_func ?_⟩
    have ht := hbody A outer s H vs Q E (hr.deeper _) hsp
    have I : Inv (cxOf CX P w K mg base N qual scope f cdv A outer s H E) [] (L2.start N vs) H s1 := inv_start S hr.hd e0 hl r x
    refine wpAny_mono (ht [] s1 hk I) (fun fl s' hs => ?_) fun e s' hs => hs
    cases fl with
    | ret u =>
      obtain ⟨v, σ', H', J, rv, q⟩ := hs
      exact ⟨v, H', J.os, J.bare, J.base, J.hok, rv, q⟩
    | next =>
      obtain ⟨σ', H', J, q⟩ := hs
      exact ⟨V.non, H', J.os, J.bare, J.base, J.hok, (rfl : Value.none = Value.none), q⟩
    | brk => obtain ⟨_, _, _, q⟩ := hs; exact False.elim q
    | cont => obtain ⟨_, _, _, q⟩ := hs; exact False.elim q
  cases T with
  | false => exact wpAny_newFunctionEnv_cells S.kind kinds fun env he s1 x => main env he s1 tk_f x
  | true =>
    refine newEnv_toks S.kind kinds ?_ fun env he s1 k x => main env he s1 (fun _ => k) x
    obtain ⟨x, hx, h2⟩ := hT rfl
    obtain ⟨i, hi, e⟩ := List.getElem_of_mem hx
    have hul : us.length = ps.length := by rw [← r.length, hl]
    exact ⟨(ps[i], us[i]'(by omega)), List.mem_of_getElem? (i := i) (by rw [List.getElem?_zip_eq_some]; exact ⟨List.getElem?_eq_getElem hi, List.getElem?_eq_getElem _⟩), by rw [e]; exact h2⟩
/-- THE RULE for a def that may raise (or not) -/
theorem fn_d {x qual : Str} {st : Stmt} {f : Addr} {fd : FuncData} {N ps : List Str} {k : Nat} {S : Spc} (T : Bool) (F : Fun K x qual st f fd) (Sc : FnScope N ps (defScope st)) (hT : T = true → ∃ x ∈ ps, (defScope st).names.lookup x = some .local) (len : ∀ ds M P E, S ds M P E → ds.length = ps.length)
    (body : ∀ (cdv : Value) (A : Around) (outer : List Env) (s : Shared) (H : Hp) (E : XK), Room k (A.deeper (PyProof.Rows.envOfC qual (defScope st) s.heap.objs.size f cdv)) → ∀ ds M Pd PE, S ds M Pd PE →
      WS (cxOf (L2.CX P w) P w K mg base N qual (defScope st) f cdv A outer s H E) T (defBody st) (startT N ds) M (retR Pd PE)) : FnD P w K mg base (k + 1) f fd ps S := by
  obtain ⟨oc, od, kV, doc, pm, an, cdv, ct, osl, rfl, lk, hcd⟩ := F.ex
  refine fn_w (T := T) lk hcd Sc hT (fun vs H Q E h => ?_) (fun A outer s H vs Q E hr h => ?_)
  · obtain ⟨G, ds, M, Pd, PE, dv, _, hs, _⟩ := h
    rw [dv.length]; exact len _ _ _ _ hs
  · obtain ⟨G, ds, M, Pd, PE, dv, hH, hs, hP, hX⟩ := h
    exact (body cdv A outer s H E hr ds M Pd PE hs).run _ (takes_of rfl rfl rfl rfl) _ G H (denE_start dv) hH _ (cs_ret hP fun x M2 G2 H2 d p s h dx σ => hX x M2 G2 H2 d p s h dx)
/-- the law's own def: nothing leaves it -/
theorem fn_law {x qual : Str} {st : Stmt} {f : Addr} {fd : FuncData} {N ps : List Str} {k : Nat} {S : Spc} (T : Bool) (F : Fun K x qual st f fd) (Sc : FnScope N ps (defScope st)) (hT : T = true → ∃ x ∈ ps, (defScope st).names.lookup x = some .local) (len : ∀ ds M P E, S ds M P E → ds.length = ps.length)
    (body : ∀ (cdv : Value) (A : Around) (outer : List Env) (s : Shared) (H : Hp), Room k (A.deeper (PyProof.Rows.envOfC qual (defScope st) s.heap.objs.size f cdv)) → ∀ ds M Pd PE, S ds M Pd PE →
      WS (cxOf CX0 P w K mg base N qual (defScope st) f cdv A outer s H L2.E0).nox T (defBody st) (startT N ds) M (retR Pd E0')) : FnOk P w K mg base CX0 (k + 1) f fd ps (toSp K S) := by
  obtain ⟨oc, od, kV, doc, pm, an, cdv, ct, osl, rfl, lk, hcd⟩ := F.ex
  refine fn_w (T := T) lk hcd Sc hT (fun vs H Q E h => ?_) (fun A outer s H vs Q E hr h => ?_)
  · obtain ⟨G, ds, M, Pd, PE, dv, _, hs, _⟩ := h
    rw [dv.length]; exact len _ _ _ _ hs
  · obtain ⟨G, ds, M, Pd, PE, dv, hH, hs, hP, hX⟩ := h
    intro pins s1 tk I
    have q := (body cdv A outer s H hr ds M Pd PE hs).run _ takes0 _ G H (denE_start dv) hH _ (cs_ret hP fun x M2 G2 H2 d p => p.elim) pins s1 tk (I.wish _)
    exact wpAny_mono q (fun _ _ z => z.unwish) fun _ _ z => False.elim z
end

/-! ### calls -/
section
variable {X : Cx} {T : Bool} {τ : TEnv} {M : Mem} {P : PK'} {E : XKx} {e o a b c : Expr} {es : List Expr} {pos p apos : Pos} {k : Nat} {f C : Addr} {fd : FuncData} {ps : List Str} {S : Spc} {dvs : List V} {df : List Dat} {dsv : List Value} {x m : Str}
theorem run_d {pins : List (Addr × Obj)} {σ : L2.St} {H : Hp} {s : Shared} {Q : VK} {us : List Value} {vs : List V} {W : WX} (F : FnD X.prog X.w X.K X.mg X.base k f fd ps S) (hr : Room k X.A) (hb : Binds X.K fd ps dsv) (hd : Vals dvs dsv) (tk : Takes X W)
    (I : Inv X pins σ H s) (r : Vals vs us) (h : toSp X.K S (vs ++ dvs) H Q (fun c d H2 => W c d σ H2)) : wpAny (model X.prog X.w) X.A (call (.ref f) us) (EP X pins σ Q) X.xe s :=
  run_fnSD (E := fun σ c d H2 => W c d σ H2) F hr hb hd (fun pins H s e s' I c => tk e s' (XE.of_call I (fun cls d H' h => h) c)) I r h
/-- f(e, ..) -/
theorem ex_call (F : FnD X.prog X.w X.K X.mg X.base k f fd ps S) (hr : Room k X.A) (hm : X.mg x = some (.ref f)) (hk : PySem.W.keepIn X.K (.ref f) = true) (hb : Binds X.K fd ps dsv) (hd : Vals dvs dsv) (hdf : ∀ G, DenL X.K G df dvs)
    (h : EA X T (e :: es) τ M (fun ds M1 => AP S (ds ++ df) M1 P E) E) (hg : Gl X x := by rfl) (hdb : (x == ("__debug__" : Str)) = false := by decide) (he : starEach (e :: es) X.env = (false, eval e X.env) :: starEach es X.env := by rfl) (hpl : (backTo pos (starEach es X.env)).any (·.1) = false := by rfl) :
    EX X T (.Call (.Name x p) (e :: es) [] pos) τ M P E := by
  refine .mk ?_; intro W tk σ G H hE hH Q hP hX pins s k0 I
  refine wpAny_Call_Name_kw (ld_glob I hg hm ?_ hdb)
  have hA := h.run W tk σ G H hE hH (fun vs H1 => toSp X.K S (vs ++ dvs) H1 Q (fun c d H2 => W c d σ H2)) (fun ds M1 vs G1 H1 ha s1 h1 dv => ap_toSp ha (dv.append (hdf G1)) h1 (hP.step s1) (hX.step s1)) hX
  refine PySem.W.callWith_K (h₀ := X.base) I.ok.mod.kin hk (thn (hA pos pins s k0 I) fun us s1 ⟨vs, H1, I1, r, q⟩ => ⟨I1.kIn, ?_⟩) he hpl
  exact run_d F hr hb hd tk I1 r q
/-- an instance of the class at C without a field m -/
def IsI (C : Addr) (m : Str) (M : Mem) (d : Dat) : Prop := (∃ ns ds, d = .obj C ns ds ∧ m ∉ ns) ∨ ∃ p dx fs, d = .raw (.ref p) ∧ (p, MC.ins C dx fs) ∈ M ∧ m ∉ fs.map (·.1)
theorem lookup_none_of {α : Type} : ∀ {l : List (Str × α)} {m : Str}, m ∉ l.map (·.1) → l.lookup m = none
  | [], _, _ => rfl
  | (n, v) :: r, m, h => by
    have h1 : (m == n) = false := by
      cases q : m == n with
      | false => rfl
      | true => exact absurd (List.mem_map.mpr ⟨(n, v), List.mem_cons_self, (eq_of_beq q).symm⟩) h
    rw [List.lookup_cons, h1]
    exact lookup_none_of fun z => h (List.mem_cons_of_mem _ z)
theorem zip_fst_sub {α β : Type} {a : α} : ∀ {l : List α} {r : List β}, a ∈ (l.zip r).map (·.1) → a ∈ l
  | [], _, h => by simp at h
  | _ :: _, [], h => by simp at h
  | x :: l, y :: r, h => by
    rw [List.zip_cons_cons, List.map_cons] at h
    rcases List.mem_cons.mp h with e | h
    · exact List.mem_cons.mpr (.inl e)
    · exact List.mem_cons_of_mem _ (zip_fst_sub h)
theorem IsI.get {K : PySem.W.Frag} {G H : Hp} {d : Dat} {v : V} (h : IsI C m M d) (hH : Hst K G M H) (dv : Den K G d v) : ∃ a dx fs, v = .ref a ∧ H a = some (.ins C dx fs) ∧ fs.lookup m = none := by
  rcases h with ⟨ns, ds, rfl, hm⟩ | ⟨q, dx, fs, rfl, hq, hm⟩
  · obtain ⟨a, dx, vs, rfl, h1, h2, h3⟩ := dv.obj_inv
    exact ⟨a, dx, _, rfl, hH.sub _ _ h1, lookup_none_of fun z => hm (zip_fst_sub z)⟩
  · obtain ⟨vs, h1, h2, h3⟩ := hH.mem _ hq
    exact ⟨q, dx, vs, dv.raw_inv, h1, lookup_none_of fun z => hm (by rw [← h3.1]; exact z)⟩
/-- e.f, a property -/
theorem ex_prop {q g : Addr} {n : Str} (c : Cls X.K C) (hp : PropOf X.K C n q g) (F : FnD X.prog X.w X.K X.mg X.base k g fd ps S) (hr : Room (k + 1) X.A) (hb : Binds X.K fd ps [])
    (h : EX X T e τ M (fun d M1 => (∃ m, IsI C m M1 d) ∧ AP S [d] M1 P E0') E) (hab : attributeBase e n X.env (eval e X.env) = eval e X.env := by rfl) : EX X T (.Attribute e n pos) τ M P E := by
  refine .mk ?_; intro W tk σ G H hE hH Q hP hX
  intro pins s k0 I
  have hO := h.run W tk σ G H hE hH (fun x H1 => ∃ a dx fs, x = .ref a ∧ H1 a = some (.ins C dx fs) ∧ toSp X.K S [x] H1 Q L2.E0) (fun d M1 v G1 H1 ⟨⟨m, hi⟩, ha⟩ s1 h1 dv => by
    obtain ⟨a, dx, fs, e1, e2, e3⟩ := hi.get h1 dv
    exact ⟨a, dx, fs, e1, e2, ap_toSp ha (.cons dv .nil) h1 (hP.step s1) noX⟩) hX
  refine attr_of hab (thn (hO pins s k0 I) fun u s1 ⟨x, H1, I1, rx, a, dx, fs, ex, ea, q⟩ => ?_)
  subst ex
  obtain rfl : u = Value.ref a := rx
  exact getprop_ok (dvs := []) I1 ea c hp F hr hb .nil passL q
/-- a field of an instance -/
def FldI (K : PySem.W.Frag) (n : Str) (M : Mem) (d z : Dat) : Prop := ∃ C, Cls K C ∧ NoAttr K C n ∧ ((∃ ns ds, d = .obj C ns ds ∧ ns.length = ds.length ∧ (ns.zip ds).lookup n = some z) ∨ ∃ p dx fs, d = .raw (.ref p) ∧ (p, MC.ins C dx fs) ∈ M ∧ fs.lookup n = some z)
theorem denL_lookup {K : PySem.W.Frag} {G : Hp} : ∀ {ns : List Str} {ds : List Dat} {vs : List V} {n : Str} {z : Dat}, DenL K G ds vs → (ns.zip ds).lookup n = some z → ∃ v, (ns.zip vs).lookup n = some v ∧ Den K G z v
  | [], _, _, _, _, _, h => by simp at h
  | _ :: _, [], _, _, _, _, h => by simp at h
  | y :: ns, d :: ds, _, n, z, q, h => by
    obtain ⟨v, r, rfl, hv, t⟩ := q.cons_inv
    rw [List.zip_cons_cons, List.lookup_cons] at h ⊢
    cases e : n == y with
    | true => rw [e] at h; cases h; exact ⟨v, rfl, hv⟩
    | false => rw [e] at h; exact denL_lookup t h
theorem denF_lookup {K : PySem.W.Frag} {G : Hp} : ∀ {fs : List (Str × Dat)} {vs : List (Str × V)} {n : Str} {z : Dat}, DenF K G fs vs → fs.lookup n = some z → ∃ v, vs.lookup n = some v ∧ Den K G z v
  | [], _, _, _, _, h => by simp at h
  | (y, d) :: fs, [], _, _, q, h => by have := q.1; simp at this
  | (y, d) :: fs, (y', v) :: vs, n, z, q, h => by
    obtain ⟨h1, h2⟩ := q
    rw [List.map_cons, List.map_cons] at h1
    obtain ⟨e1, e2⟩ := List.cons.inj h1
    have e1 : y' = y := e1
    subst e1
    obtain ⟨v', r, e, hv, t⟩ := (show DenL K G (d :: fs.map (·.2)) (v :: vs.map (·.2)) from h2).cons_inv
    obtain ⟨rfl, rfl⟩ := List.cons.inj e
    rw [List.lookup_cons] at h ⊢
    cases e : n == y' with
    | true => rw [e] at h; cases h; exact ⟨v, rfl, hv⟩
    | false => rw [e] at h; exact denF_lookup ⟨e2, t⟩ h
theorem v_fld {n : Str} {σ : L2.St} {H : Hp} {Q : VK} (hb : attributeBase e n X.env (eval e X.env) = eval e X.env) (q : tW X T e σ H fun x H1 => ∃ a C dx fs v, x = .ref a ∧ H1 a = some (.ins C dx fs) ∧ Cls X.K C ∧ NoAttr X.K C n ∧ fs.lookup n = some v ∧ Q v H1) :
    tW X T (.Attribute e n pos) σ H Q := fun pins s k0 I =>
  attr_of hb (thn (q pins s k0 I) fun u s1 ⟨x, H1, I1, rx, a, C, dx, fs, v, ex, ea, hc, hn, l, q⟩ => by
    subst ex
    obtain rfl : u = Value.ref a := rx
    exact getattr_ok I1 ea hc hn l fun u' s2 I2 ru => ⟨v, H1, I2, ru, q⟩)
theorem ex_fld {n : Str} (h : EX X T e τ M (fun d M1 => ∃ z, FldI X.K n M1 d z ∧ P z M1) E) (hb : attributeBase e n X.env (eval e X.env) = eval e X.env := by rfl) : EX X T (.Attribute e n pos) τ M P E := by
  refine .mk ?_; intro W tk σ G H hE hH Q hP hX
  refine v_fld hb ?_
  refine h.run W tk σ G H hE hH _ ?_ hX
  intro d M1 v G1 H1 ⟨z, ⟨C, hc, hn, hz⟩, hp⟩ s1 h1 dv
  rcases hz with ⟨ns, ds, rfl, hl, hz⟩ | ⟨q, dx, fs, rfl, hq, hz⟩
  · obtain ⟨a, dx, vs, rfl, g1, g2, g3⟩ := dv.obj_inv
    obtain ⟨u, l1, l2⟩ := denL_lookup g3 hz
    exact ⟨a, C, dx, _, u, rfl, h1.sub _ _ g1, hc, hn, l1, hP _ _ _ _ _ hp s1 h1 l2⟩
  · obtain ⟨vs, g1, g2, g3⟩ := h1.mem _ hq
    obtain ⟨u, l1, l2⟩ := denF_lookup g3 hz
    exact ⟨q, C, dx, vs, u, dv.raw_inv, g1, hc, hn, l1, hP _ _ _ _ _ hp s1 h1 l2⟩
/-! ### new instances -/
theorem hst_new {K : PySem.W.Frag} {G H : Hp} {x dx C : Addr} (h : Hst K G M H) (hx : H x = none) (hdx : H dx = none) (ne : dx ≠ x) :
    Hst K G ((x, .ins C dx []) :: M) (upd (upd H dx (.own x)) x (.ins C dx [])) ∧ Stp G M H G ((x, .ins C dx []) :: M) (upd (upd H dx (.own x)) x (.ins C dx [])) := by
  have nM : ∀ b ∈ adr M, b ≠ x ∧ b ≠ dx := fun b hb => ⟨fun e => h.there b hb (by rw [e]; exact hx), fun e => h.there b hb (by rw [e]; exact hdx)⟩
  have kp : ∀ b o, H b = some o → (upd (upd H dx (.own x)) x (.ins C dx [])) b = some o := fun b o e => by
    rw [upd_ne (ne_of_none e hx), upd_ne (ne_of_none e hdx)]; exact e
  have ha : adr ((x, MC.ins C dx []) :: M) = x :: dx :: adr M := rfl
  refine ⟨⟨fun b o e => kp b o (h.sub b o e), fun c hc => ?_, fun b hb => ?_, ?_⟩, ⟨Same.refl _, fun b o _ e => kp b o e, fun _ _ _ g => g, fun b hb => ?_⟩⟩
  · rcases List.mem_cons.mp hc with rfl | hc
    · exact ⟨[], upd_same, by rw [upd_ne ne]; exact upd_same, rfl, .nil⟩
    · exact (h.mem c hc).up (Same.refl _) fun b hb o e => kp b o e
  · rw [ha] at hb
    rcases List.mem_cons.mp hb with rfl | hb
    · exact h.sub.free hx
    · rcases List.mem_cons.mp hb with rfl | hb
      · exact h.sub.free hdx
      · exact h.out b hb
  · rw [ha]
    refine List.nodup_cons.mpr ⟨fun hm => ?_, List.nodup_cons.mpr ⟨fun hm => (nM dx hm).2 rfl, h.nd⟩⟩
    rcases List.mem_cons.mp hm with e | hm
    · exact ne e.symm
    · exact (nM x hm).1 rfl
  · rw [ha] at hb
    rcases List.mem_cons.mp hb with rfl | hb
    · exact .inr hx
    · rcases List.mem_cons.mp hb with rfl | hb
      · exact .inr hdx
      · exact .inl hb
theorem zip_map {α β : Type} : ∀ (l : List (α × β)), (l.map (·.1)).zip (l.map (·.2)) = l
  | [] => rfl
  | (a, b) :: l => by simp only [List.map_cons, List.zip_cons_cons, zip_map l]
/-- a cell of an instance is changed no more -/
theorem freezeI {K : PySem.W.Frag} {G H : Hp} {x dx C : Addr} {fs : List (Str × Dat)} (h : Hst K G ((x, .ins C dx fs) :: M) H) : ∃ G', Stp G ((x, .ins C dx fs) :: M) H G' M H ∧ Hst K G' M H ∧ Den K G' (.obj C (fs.map (·.1)) (fs.map (·.2))) (.ref x) := by
  obtain ⟨vs, h1, h2, h3, h4⟩ := h.mem _ List.mem_cons_self
  have ha : adr ((x, MC.ins C dx fs) :: M) = x :: dx :: adr M := rfl
  have gx : G x = none := h.out x (by rw [ha]; exact List.mem_cons_self)
  have gdx : G dx = none := h.out dx (by rw [ha]; exact List.mem_cons_of_mem _ List.mem_cons_self)
  have nd := h.nd
  rw [ha] at nd
  obtain ⟨n1, n2⟩ := List.nodup_cons.mp nd
  obtain ⟨n3, n4⟩ := List.nodup_cons.mp n2
  have ne : dx ≠ x := fun e => n1 (by rw [e]; exact List.mem_cons_self)
  have up : Same G (upd (upd G dx (.own x)) x (.ins C dx vs)) := fun b o e => by rw [upd_ne (ne_of_none e gx), upd_ne (ne_of_none e gdx)]; exact e
  have sub : Same (upd (upd G dx (.own x)) x (.ins C dx vs)) H := fun b o e => by
    by_cases c : b = x
    · subst c; rw [upd_same] at e; cases e; exact h1
    · rw [upd_ne c] at e
      by_cases c : b = dx
      · subst c; rw [upd_same] at e; cases e; exact h2
      · rw [upd_ne c] at e; exact h.sub b o e
  refine ⟨_, ⟨up, fun _ _ _ e => e, fun b _ hb g => ?_, fun b hb => .inl (by rw [ha]; exact List.mem_cons_of_mem _ (List.mem_cons_of_mem _ hb))⟩, ⟨sub, fun c hc => (h.mem c (List.mem_cons_of_mem _ hc)).up up fun _ _ _ e => e, fun b hb => ?_, n4⟩, ?_⟩
  · rw [ha] at hb
    rw [upd_ne (fun e => hb (by rw [e]; exact List.mem_cons_self)), upd_ne (fun e => hb (by rw [e]; exact List.mem_cons_of_mem _ List.mem_cons_self))]; exact g
  · rw [upd_ne (fun e => n1 (by rw [← e]; exact List.mem_cons_of_mem _ hb)), upd_ne (fun e => n3 (by rw [← e]; exact hb))]
    exact h.out b (by rw [ha]; exact List.mem_cons_of_mem _ (List.mem_cons_of_mem _ hb))
  · simp only [Den]
    refine ⟨x, dx, vs.map (·.2), rfl, ?_, by rw [upd_ne ne]; exact upd_same, h4.up up⟩
    rw [upd_same, ← h3, zip_map]
theorem freezeL {K : PySem.W.Frag} {G H : Hp} {x : Addr} {ds : List Dat} (h : Hst K G ((x, .lst ds) :: M) H) : ∃ G', Stp G ((x, .lst ds) :: M) H G' M H ∧ Hst K G' M H ∧ Den K G' (.lst ds) (.ref x) := by
  obtain ⟨vs, h1, h4⟩ := h.mem _ List.mem_cons_self
  have ha : adr ((x, MC.lst ds) :: M) = x :: adr M := rfl
  have gx : G x = none := h.out x (by rw [ha]; exact List.mem_cons_self)
  have nd := h.nd
  rw [ha] at nd
  obtain ⟨n1, n4⟩ := List.nodup_cons.mp nd
  have up : Same G (upd G x (.lst vs)) := fun b o e => by rw [upd_ne (ne_of_none e gx)]; exact e
  have sub : Same (upd G x (.lst vs)) H := fun b o e => by
    by_cases c : b = x
    · subst c; rw [upd_same] at e; cases e; exact h1
    · rw [upd_ne c] at e; exact h.sub b o e
  refine ⟨_, ⟨up, fun _ _ _ e => e, fun b _ hb g => ?_, fun b hb => .inl (by rw [ha]; exact List.mem_cons_of_mem _ hb)⟩, ⟨sub, fun c hc => (h.mem c (List.mem_cons_of_mem _ hc)).up up fun _ _ _ e => e, fun b hb => ?_, n4⟩, den_lst upd_same (h4.up up)⟩
  · rw [ha] at hb
    rw [upd_ne (fun e => hb (by rw [e]; exact List.mem_cons_self))]; exact g
  · rw [upd_ne (fun e => n1 (by rw [← e]; exact hb))]
    exact h.out b (by rw [ha]; exact List.mem_cons_of_mem _ hb)
/-- what becomes of a new instance at x: it stays a cell, or it is frozen -/
def MadeP (P : PK') (x : Addr) (M2 : Mem) : Prop := P (.raw (.ref x)) M2 ∨ ∃ C dx fs M3, M2.Perm ((x, .ins C dx fs) :: M3) ∧ P (.obj C (fs.map (·.1)) (fs.map (·.2))) M3
theorem madeP_ce {K : PySem.W.Frag} {G H : Hp} {Q : VK} {x : Addr} (hP : CE' K G M H P Q) {M2 : Mem} {G2 H2 : Hp} (hm : MadeP P x M2) (s : Stp G M H G2 M2 H2) (h2 : Hst K G2 M2 H2) : Q (.ref x) H2 := by
  rcases hm with hm | ⟨C, dx, fs, M3, pm, hm⟩
  · exact hP _ _ _ _ _ hm s h2 den_raw
  · obtain ⟨G', s3, h3, d3⟩ := freezeI (h2.perm pm)
    exact hP _ _ _ _ _ hm ((s.perm (List.Perm.refl _) pm).trans s3) h3 d3
theorem run_makeD {pins : List (Addr × Obj)} {σ : L2.St} {H : Hp} {s : Shared} {Q : VK} {us : List Value} {vs : List V} {W : WX} (Mk' : Mk X.K C f) (F : FnD X.prog X.w X.K X.mg X.base k f fd ps S) (hr : Room (k + 1) X.A) (hb : Binds X.K fd ps dsv) (hd : Vals dvs dsv)
    (tk : Takes X W) (I : Inv X pins σ H s) (r : Vals vs us)
    (h : ∀ x dx, H x = none → H dx = none → dx ≠ x → toSp X.K S (.ref x :: (vs ++ dvs)) (upd (upd H dx (.own x)) x (.ins C dx [])) (fun v H2 => v = .non ∧ Q (.ref x) H2) (fun c d H2 => W c d σ H2)) :
    wpAny (model X.prog X.w) X.A (call (.ref C) us) (EP X pins σ Q) X.xe s := by
  have hq := h (s.heap.objs.size + 1) s.heap.objs.size (I.hok.fresh (Nat.le_succ _)) (I.hok.fresh (Nat.le_refl _)) (Nat.ne_of_lt (Nat.lt_succ_self _))
  have I2 := Inv.made (C := C) I
  have r2 : Vals (V.ref (s.heap.objs.size + 1) :: (vs ++ dvs)) (Value.ref (s.heap.objs.size + 1) :: (us ++ dsv)) := .cons rfl (r.append hd)
  have hl : (Value.ref (s.heap.objs.size + 1) :: us ++ dsv).length = ps.length := by
    have e := r2.length
    rw [F.len _ _ _ _ hq] at e
    exact e.symm
  refine wpAny_call (make_map (f := f) I.kIn Mk'.makes Mk'.init (beq_iff_eq.mp Mk'.fn) (codeAny_mono (F.run _ X.stack _ _ ⟨Value.ref (s.heap.objs.size + 1) :: us, []⟩ (Value.ref (s.heap.objs.size + 1) :: (us ++ dsv)) _ _ _ (hr.make C us [])
    (I2.env0.make C us []) (hb _ (Value.ref (s.heap.objs.size + 1) :: us) I2.kIn hl) r2 hq) fun r s' hq' => ?_))
  cases r with
  | error e => exact tk e s' (XE.of_call I2 (fun cls d H' h => h) hq')
  | ok fl =>
    cases fl with
    | ret u =>
      obtain ⟨v, H', I3, rv, ev, q3⟩ := I2.after hq'
      subst ev
      exact ⟨rv, ⟨V.ref (s.heap.objs.size + 1), H', I3, rfl, q3⟩⟩
    | next => exact False.elim hq'
    | brk => exact False.elim hq'
    | cont => exact False.elim hq'
theorem make_sp {K : PySem.W.Frag} {G H : Hp} {Q : VK} {T : XK} {ds : List Dat} {vs : List V}
    (h : ∀ x dx, x ∉ adr M → dx ∉ adr M → dx ≠ x → AP S (.raw (.ref x) :: ds) ((x, .ins C dx []) :: M) (fun d M2 => d = .non ∧ MadeP P x M2) E) (dv : DenL K G ds vs) (hH : Hst K G M H) (hP : CE' K G M H P Q) (hX : CX' K G M H E T) :
    ∀ x dx, H x = none → H dx = none → dx ≠ x → toSp K S (.ref x :: vs) (upd (upd H dx (.own x)) x (.ins C dx [])) (fun v H2 => v = .non ∧ Q (.ref x) H2) T := by
  intro x dx hx hdx ne
  obtain ⟨h1, s1⟩ := hst_new (C := C) hH hx hdx ne
  have n1 : x ∉ adr M := fun z => hH.there x z hx
  have n2 : dx ∉ adr M := fun z => hH.there dx z hdx
  refine ap_toSp (h x dx n1 n2 ne) (.cons den_raw dv) h1 (fun d M2 v G2 H2 ⟨e, hm⟩ s2 h2 dd => ?_) (hX.step s1)
  subst e
  exact ⟨dd.non_inv, madeP_ce hP hm (s1.trans s2) h2⟩
/-- C(e, ..) -/
theorem ex_make (Mk' : Mk X.K C f) (F : FnD X.prog X.w X.K X.mg X.base k f fd ps S) (hr : Room (k + 1) X.A) (hm : X.mg x = some (.ref C)) (hb : Binds X.K fd ps dsv) (hd : Vals dvs dsv) (hdf : ∀ G, DenL X.K G df dvs)
    (h : EA X T (e :: es) τ M (fun ds M1 => ∀ x dx, x ∉ adr M1 → dx ∉ adr M1 → dx ≠ x → AP S (.raw (.ref x) :: (ds ++ df)) ((x, .ins C dx []) :: M1) (fun d M2 => d = .non ∧ MadeP P x M2) E) E)
    (hg : Gl X x := by rfl) (hdb : (x == ("__debug__" : Str)) = false := by decide) (he : starEach (e :: es) X.env = (false, eval e X.env) :: starEach es X.env := by rfl) (hpl : (backTo pos (starEach es X.env)).any (·.1) = false := by rfl) :
    EX X T (.Call (.Name x p) (e :: es) [] pos) τ M P E := by
  refine .mk ?_; intro W tk σ G H hE hH Q hP hX pins s k0 I
  refine wpAny_Call_Name_kw (ld_glob I hg hm ?_ hdb)
  have hA := h.run W tk σ G H hE hH (fun vs H1 => ∀ x dx, H1 x = none → H1 dx = none → dx ≠ x → toSp X.K S (.ref x :: (vs ++ dvs)) (upd (upd H1 dx (.own x)) x (.ins C dx [])) (fun v H2 => v = .non ∧ Q (.ref x) H2) (fun c d H2 => W c d σ H2))
    (fun ds M1 vs G1 H1 ha s1 h1 dv => make_sp ha (dv.append (hdf G1)) h1 (hP.step s1) (hX.step s1)) hX
  refine PySem.W.callWith_K (h₀ := X.base) I.ok.mod.kin Mk'.kp (thn (hA pos pins s k0 I) fun us s1 ⟨vs, H1, I1, r, q⟩ => ⟨I1.kIn, ?_⟩) he hpl
  exact run_makeD Mk' F hr hb hd tk I1 r q
end
end Kh

set_option Elab.async false
set_option linter.all false
set_option maxRecDepth 100000
set_option maxHeartbeats 1000000
namespace Kh
open PySem PySem.Spec L2

/-! ### what is walked -/
/-- J gives the data ds, one after the other, as long as the cells are as Ok says; the unchanging part G1 stands -/
def WalkD (K : PySem.W.Frag) (J : It) (ds : List Dat) (G1 : Hp) (Ok : Mem → Prop) : Prop :=
  ∀ G2 M2 H2, Same G1 G2 → Hst K G2 M2 H2 → Ok M2 → (∀ i, i < ds.length → J.go i H2) ∧ J.stop ds.length H2 ∧
    ∀ i x H', i < ds.length → J.yld i H2 x H' → ∃ G', Stp G2 M2 H2 G' M2 H' ∧ Hst K G' M2 H' ∧ ∀ d, ds[i]? = some d → Den K G' d x
/-- the iterable gives ds; behind its evaluation the cells are M1 -/
structure EI (X : Cx) (tg iter : Expr) (τ : TEnv) (M : Mem) (P : List Dat → Mem → (Mem → Prop) → Prop) (E : XKx) : Prop where
  run : ∀ W, Takes X W → ∀ σ G H, DenE X.K τ G σ → Hst X.K G M H → ∀ R : It → Hp → Prop,
    (∀ J ds M1 G1 H1 Ok, P ds M1 Ok → Stp G M H G1 M1 H1 → Hst X.K G1 M1 H1 → WalkD X.K J ds G1 Ok → R J H1) → CX' X.K G M H E (fun c d H2 => W c d σ H2) → tWI X false tg iter σ H R
abbrev anyM : Mem → Prop := fun _ => True
section
variable {X : Cx} {T : Bool} {tg iter e a b c : Expr} {τ : TEnv} {M : Mem} {E : XKx} {pos p : Pos} {PI' : List Dat → Mem → (Mem → Prop) → Prop}
theorem walkD_list {K : PySem.W.Frag} {G1 : Hp} {a : Addr} {vs : List V} {ds : List Dat} (hq : SqL K G1 a vs) (hd : DenL K G1 ds vs) : WalkD K (Itl K a) ds G1 anyM := fun G2 M2 H2 s h _ => by
  have hq2 : SqL K H2 a vs := h.sub.seq (s.seq hq)
  refine ⟨fun i hi => ?_, ⟨vs, hq2, by rw [hd.length]; exact Nat.le_refl _⟩, fun i x H' hi y => ?_⟩
  · obtain ⟨v, h1, _⟩ := hd.get (List.getElem?_eq_getElem hi)
    exact ⟨vs, v, hq2, h1⟩
  · obtain ⟨rfl, y2⟩ := y
    refine ⟨G2, Stp.refl, h, fun d hd' => ?_⟩
    obtain ⟨v, h1, h2⟩ := hd.get hd'
    have := y2 vs hq2
    rw [h1] at this; cases this
    exact h2.up s
theorem walkD_tup {K : PySem.W.Frag} {G1 : Hp} {a : Addr} {vs : List V} {ds : List Dat} (hq : SqT K G1 a vs) (hd : DenL K G1 ds vs) : WalkD K (Itt K a) ds G1 anyM := fun G2 M2 H2 s h _ => by
  have hq2 : SqT K H2 a vs := Same.tpl h.sub (Same.tpl s hq)
  refine ⟨fun i hi => ?_, ⟨vs, hq2, by rw [hd.length]; exact Nat.le_refl _⟩, fun i x H' hi y => ?_⟩
  · obtain ⟨v, h1, _⟩ := hd.get (List.getElem?_eq_getElem hi)
    exact ⟨vs, v, hq2, h1⟩
  · obtain ⟨rfl, y2⟩ := y
    refine ⟨G2, Stp.refl, h, fun d hd' => ?_⟩
    obtain ⟨v, h1, h2⟩ := hd.get hd'
    have := y2 vs hq2
    rw [h1] at this; cases this
    exact h2.up s
/-- a list that is a cell, and stays as it is -/
theorem walkD_cell {K : PySem.W.Frag} {G1 : Hp} {a : Addr} {ds : List Dat} : WalkD K (Itl K a) ds G1 (fun M => (a, .lst ds) ∈ M) := fun G2 M2 H2 s h hm => by
  obtain ⟨vs, h1, hd⟩ := h.mem _ hm
  have hq2 : SqL K H2 a vs := SqL.of h1
  refine ⟨fun i hi => ?_, ⟨vs, hq2, by rw [hd.length]; exact Nat.le_refl _⟩, fun i x H' hi y => ?_⟩
  · obtain ⟨v, h1, _⟩ := hd.get (List.getElem?_eq_getElem hi)
    exact ⟨vs, v, hq2, h1⟩
  · obtain ⟨rfl, y2⟩ := y
    refine ⟨G2, Stp.refl, h, fun d hd' => ?_⟩
    obtain ⟨v, h1, h2⟩ := hd.get hd'
    have := y2 vs hq2
    rw [h1] at this; cases this
    exact h2
theorem ei_list (h : EX X false e τ M (fun d M1 => ∃ ds, d = .lst ds ∧ PI' ds M1 anyM) E) : EI X tg e τ M PI' E := .mk fun W tk σ G H hE hH R hR hX => by
  refine tWI_of (pi_list pe_W) ?_
  refine h.run W tk σ G H hE hH _ ?_ hX
  intro d M1 v G1 H1 ⟨ds, ed, hp⟩ s1 h1 dv
  subst ed
  obtain ⟨a, vs, rfl, hq, hd⟩ := dv.lst_inv
  exact ⟨a, rfl, ⟨vs, h1.sub.seq (SqL.of hq)⟩, hR _ _ _ _ _ _ hp s1 h1 (walkD_list (SqL.of hq) hd)⟩
theorem ei_cell (h : EX X false e τ M (fun d M1 => ∃ a ds, d = .raw (.ref a) ∧ (a, MC.lst ds) ∈ M1 ∧ PI' ds M1 (fun M => (a, .lst ds) ∈ M)) E) : EI X tg e τ M PI' E := .mk fun W tk σ G H hE hH R hR hX => by
  refine tWI_of (pi_list pe_W) ?_
  refine h.run W tk σ G H hE hH _ ?_ hX
  intro d M1 v G1 H1 ⟨a, ds, ed, hm, hp⟩ s1 h1 dv
  subst ed
  obtain ⟨vs, g1, g2⟩ := h1.mem _ hm
  exact ⟨a, dv.raw_inv, ⟨vs, SqL.of g1⟩, hR _ _ _ _ _ _ hp s1 h1 walkD_cell⟩
theorem ei_tup (h : EX X false e τ M (fun d M1 => ∃ ds, d = .tup ds ∧ PI' ds M1 anyM) E) : EI X tg e τ M PI' E := .mk fun W tk σ G H hE hH R hR hX => by
  refine tWI_of (pi_tup pe_W) ?_
  refine h.run W tk σ G H hE hH _ ?_ hX
  intro d M1 v G1 H1 ⟨ds, ed, hp⟩ s1 h1 dv
  subst ed
  obtain ⟨a, vs, rfl, hq, hd⟩ := dv.tup_inv
  exact ⟨a, rfl, ⟨vs, Same.tpl h1.sub (SqT.of hq)⟩, hR _ _ _ _ _ _ hp s1 h1 (walkD_tup (SqT.of hq) hd)⟩
def rngD (lo : Int) (n : Nat) : List Dat := (List.range n).map fun (i : Nat) => .int (lo + (i : Int))
theorem rngD_length {lo : Int} {n : Nat} : (rngD lo n).length = n := by simp [rngD]
theorem rngD_get {lo : Int} {n i : Nat} {d : Dat} (h : (rngD lo n)[i]? = some d) : d = .int (lo + (i : Int)) ∧ i < n := by
  have hi : i < n := by have := (List.getElem?_eq_some_iff.mp h).1; rwa [rngD_length] at this
  unfold rngD at h
  rw [List.getElem?_map, List.getElem?_range hi] at h
  cases h
  exact ⟨rfl, hi⟩
theorem walkD_range {K : PySem.W.Frag} {G1 : Hp} {lo : Int} {n : Nat} : WalkD K (Itr lo n) (rngD lo n) G1 anyM := fun G2 M2 H2 s h _ => by
  rw [rngD_length]
  refine ⟨fun i hi => hi, Nat.le_refl _, fun i x H' hi y => ?_⟩
  obtain ⟨rfl, rfl⟩ := y
  refine ⟨G2, Stp.refl, h, fun d hd => ?_⟩
  rw [(rngD_get hd).1]; exact den_int
/-- range(n) -/
theorem ei_range1 (hm : X.mg "range" = none) (h : EX X false a τ M (fun d M1 => ∃ j, d = .int j ∧ (-(2 ^ 62) ≤ j ∧ j < 2 ^ 62) ∧ PI' (rngD 0 j.toNat) M1 anyM) E) (hg : Gl X "range" := by rfl) (hs : starEach [a] X.env = [(false, eval a X.env)] := by rfl) : EI X tg (.Call (.Name "range" p) [a] [] pos) τ M PI' E := .mk fun W tk σ G H hE hH R hR hX => by
  refine tWI_of (pi_range1 hg hm (pa_cons pe_W pa_nil hs) hs) ?_
  refine h.run W tk σ G H hE hH _ ?_ hX
  intro d M1 v G1 H1 ⟨j, ed, hb, hp⟩ s1 h1 dv
  subst ed
  exact ⟨j, by rw [dv.int_inv], hb.1, hb.2, hR _ _ _ _ _ _ hp s1 h1 walkD_range⟩
theorem ei_range2 (hm : X.mg "range" = none) (h : EX X false a τ M (fun d M1 => EX X false b τ M1 (fun d2 M2 => ∃ i j, d = .int i ∧ d2 = .int j ∧ (-(2 ^ 62) ≤ i ∧ i < 2 ^ 62 ∧ -(2 ^ 62) ≤ j ∧ j < 2 ^ 62) ∧ PI' (rngD i (j - i).toNat) M2 anyM) E) E) (hg : Gl X "range" := by rfl)
    (hs : starEach [a, b] X.env = [(false, eval a X.env), (false, eval b X.env)] := by rfl) (hs2 : starEach [b] X.env = [(false, eval b X.env)] := by rfl) : EI X tg (.Call (.Name "range" p) [a, b] [] pos) τ M PI' E := .mk fun W tk σ G H hE hH R hR hX => by
  refine tWI_of (pi_range2 hg hm (pa_cons pe_W (pa_cons pe_W pa_nil hs2) (by rw [hs, hs2])) hs hs2) ?_
  refine h.run W tk σ G H hE hH _ ?_ hX
  intro d M1 v G1 H1 hb s1 h1 dv
  refine hb.run W tk σ G1 H1 (hE.up s1.gg) h1 _ ?_ (hX.step s1)
  intro d2 M2 v2 G2 H2 ⟨i, j, ed, ed2, hrg, hp⟩ s2 h2 dv2
  subst ed; subst ed2
  exact ⟨i, j, by rw [dv.int_inv, dv2.int_inv], hrg, hR _ _ _ _ _ _ hp (s1.trans s2) h2 walkD_range⟩
/-- range(a, b, c), c above 0 -/
def rngC (lo c : Int) (n : Nat) : List Dat := (List.range n).map fun (i : Nat) => .int (lo + (i : Int) * c)
theorem rngC_length {lo c : Int} {n : Nat} : (rngC lo c n).length = n := by simp [rngC]
theorem rngC_get {lo c : Int} {n i : Nat} {d : Dat} (h : (rngC lo c n)[i]? = some d) : d = .int (lo + (i : Int) * c) ∧ i < n := by
  have hi : i < n := by have := (List.getElem?_eq_some_iff.mp h).1; rwa [rngC_length] at this
  unfold rngC at h
  rw [List.getElem?_map, List.getElem?_range hi] at h
  cases h
  exact ⟨rfl, hi⟩
theorem walkD_rangeC {K : PySem.W.Frag} {G1 : Hp} {lo c : Int} {n : Nat} : WalkD K (Itc lo c n) (rngC lo c n) G1 anyM := fun G2 M2 H2 s h _ => by
  rw [rngC_length]
  refine ⟨fun i hi => hi, Nat.le_refl _, fun i x H' hi y => ?_⟩
  obtain ⟨rfl, rfl⟩ := y
  refine ⟨G2, Stp.refl, h, fun d hd => ?_⟩
  rw [(rngC_get hd).1]; exact den_int
theorem ei_range3 (hm : X.mg "range" = none) (h : EX X false a τ M (fun d M1 => EX X false b τ M1 (fun d2 M2 => EX X false c τ M2 (fun d3 M3 => ∃ i j c' n, d = .int i ∧ d2 = .int j ∧ d3 = .int c' ∧ RgC i j c' n ∧ PI' (rngC i c' n) M3 anyM) E) E) E) (hg : Gl X "range" := by rfl)
    (hs : starEach [a, b, c] X.env = (false, eval a X.env) :: starEach [b, c] X.env := by rfl) (hs2 : starEach [b, c] X.env = (false, eval b X.env) :: starEach [c] X.env := by rfl) (hs3 : starEach [c] X.env = (false, eval c X.env) :: starEach [] X.env := by rfl) (hpl : (backTo pos (starEach [b, c] X.env)).any (·.1) = false := by rfl) :
    EI X tg (.Call (.Name "range" p) [a, b, c] [] pos) τ M PI' E := .mk fun W tk σ G H hE hH R hR hX => by
  refine tWI_of (pi_range3 hg hm (pa_cons pe_W (pa_cons pe_W (pa_cons pe_W pa_nil hs3) hs2) hs) hs hpl) ?_
  refine h.run W tk σ G H hE hH _ ?_ hX
  intro d M1 v G1 H1 hb s1 h1 dv
  refine hb.run W tk σ G1 H1 (hE.up s1.gg) h1 _ ?_ (hX.step s1)
  intro d2 M2 v2 G2 H2 hb2 s2 h2 dv2
  refine hb2.run W tk σ G2 H2 ((hE.up s1.gg).up s2.gg) h2 _ ?_ ((hX.step s1).step s2)
  intro d3 M3 v3 G3 H3 ⟨i, j, c', n, ed, ed2, ed3, hrg, hp⟩ s3 h3 dv3
  subst ed; subst ed2; subst ed3
  exact ⟨i, j, c', n, by rw [dv.int_inv, dv2.int_inv, dv3.int_inv], hrg, hR _ _ _ _ _ _ hp ((s1.trans s2).trans s3) h3 walkD_rangeC⟩
/-- a text, sign by sign -/
def sgnD (z : Str) : List Dat := z.cps.toList.map fun c => .str ⟨#[c]⟩
theorem walkD_str {K : PySem.W.Frag} {G1 : Hp} {z : Str} : WalkD K (Its z) (sgnD z) G1 anyM := fun G2 M2 H2 s h _ => by
  have hl : (sgnD z).length = z.cps.size := by simp [sgnD]
  rw [hl]
  refine ⟨fun i hi => hi, Nat.le_refl _, fun i x H' hi y => ?_⟩
  obtain ⟨rfl, c, h1, rfl⟩ := y
  refine ⟨G2, Stp.refl, h, fun d hd => ?_⟩
  unfold sgnD at hd
  rw [List.getElem?_map, Array.getElem?_toList, h1] at hd
  cases hd
  exact den_str
theorem ei_str (h : EX X false e τ M (fun d M1 => ∃ z, d = .str z ∧ PI' (sgnD z) M1 anyM) E) : EI X tg e τ M PI' E := .mk fun W tk σ G H hE hH R hR hX => by
  refine tWI_of (pi_str pe_W) ?_
  refine h.run W tk σ G H hE hH _ ?_ hX
  intro d M1 v G1 H1 ⟨z, ed, hp⟩ s1 h1 dv
  subst ed
  exact ⟨z, dv.str_inv, hR _ _ _ _ _ _ hp s1 h1 walkD_str⟩
/-- enumerate(list) -/
def enuD (ds : List Dat) : List Dat := ds.zipIdx.map fun q => .tup [.int (q.2 : Int), q.1]
theorem enuD_length {ds : List Dat} : (enuD ds).length = ds.length := by simp [enuD]
theorem enuD_get {ds : List Dat} {i : Nat} {d : Dat} (h : (enuD ds)[i]? = some d) : ∃ x, ds[i]? = some x ∧ d = .tup [.int (i : Int), x] := by
  unfold enuD at h
  rw [List.getElem?_map, List.getElem?_zipIdx] at h
  cases e : ds[i]? with
  | none => rw [e] at h; cases h
  | some x => rw [e] at h; simp at h; exact ⟨x, rfl, h.symm⟩
theorem walkD_enum {K : PySem.W.Frag} {G1 : Hp} {a : Addr} {vs : List V} {ds : List Dat} (hq : SqL K G1 a vs) (hd : DenL K G1 ds vs) : WalkD K (Ite K a) (enuD ds) G1 anyM := fun G2 M2 H2 s h _ => by
  have hq2 : SqL K H2 a vs := h.sub.seq (s.seq hq)
  rw [enuD_length]
  refine ⟨fun i hi => ?_, ⟨vs, hq2, by rw [hd.length]; exact Nat.le_refl _⟩, fun i x H' hi y => ?_⟩
  · obtain ⟨v, h1, _⟩ := hd.get (List.getElem?_eq_getElem hi)
    exact ⟨vs, v, hq2, h1⟩
  · obtain ⟨T, x', rfl, hT, rfl, y2⟩ := y
    obtain ⟨s3, h3⟩ := Stp.new (o := .tup [.int (i : Nat), x']) h hT
    refine ⟨_, s3, h3, fun d hd' => ?_⟩
    obtain ⟨z, hz, rfl⟩ := enuD_get hd'
    obtain ⟨v, h1, h2⟩ := hd.get hz
    have := y2 vs hq2
    rw [h1] at this; cases this
    exact den_tup upd_same (.cons den_int (.cons ((h2.up s).up s3.gg) .nil))
theorem ei_enum {elts : List Expr} {kk : Nat} {tpos : Pos} (hm : X.mg "enumerate" = none) (h : EX X false e τ M (fun d M1 => ∃ ds, d = .lst ds ∧ PI' (enuD ds) M1 anyM) E) (hg : Gl X "enumerate" := by rfl) (hs : starEach [e] X.env = [(false, eval e X.env)] := by rfl) : EI X (.Tuple elts kk tpos) (.Call (.Name "enumerate" p) [e] [] pos) τ M PI' E := .mk fun W tk σ G H hE hH R hR hX => by
  refine tWI_of (pi_enum hg hm (pa_cons pe_W pa_nil hs) hs) ?_
  refine h.run W tk σ G H hE hH _ ?_ hX
  intro d M1 v G1 H1 ⟨ds, ed, hp⟩ s1 h1 dv
  subst ed
  obtain ⟨a, vs, rfl, hq, hd⟩ := dv.lst_inv
  exact ⟨a, vs, rfl, h1.sub.seq (SqL.of hq), hR _ _ _ _ _ _ hp s1 h1 (walkD_enum (SqL.of hq) hd)⟩

/-! ### for -/
theorem s_for {body : List Stmt} {σ : L2.St} {H : Hp} {D : Ends} (hp : PassesOwn (model X.prog X.w) X.A X.env X.xe) (hc : X.calm = true) (hs : ∀ x, foldedSetIterable iter X.env x = pure x)
    (q : tWI X false tg iter σ H fun J H1 => ∃ Wm : Nat → Nat → L2.St → Hp → Prop, (∃ m, Wm 0 m σ H1) ∧ ∀ i m σ H, Wm i m σ H →
      (J.stop i H ∧ D.nx σ H) ∨ (J.go i H ∧ ∃ N : L2.St → Hp → Prop, (∀ σ' H', N σ' H' → ∃ m', m' < m ∧ Wm (i + 1) m' σ' H') ∧ ∀ x H', J.yld i H x H' → tWG X T tg x σ H' fun σ2 H2 => tWSs X T body { D with nx := N, ct := N, bk := D.nx } σ2 H2)) :
    tWS X T (.For tg iter body [] pos) D σ H := fun pins s k0 I => by
  refine wpAny_For (thnT k0 (q pins s tk_f I) fun v s1 k1 h1 => thnT k1 h1 fun itv s2 k2 h2 => ?_) hs
  obtain ⟨it, fp, tn, J, H2, e, I2, Tu, st2, f2, Wm, ⟨m0, w0⟩, turn⟩ := h2
  subst e
  have stat : ∀ {H' : Hp}, (∀ b ∈ fp, H' b = none) → ∀ b ∈ fp, FpOk X pins H' b := fun hn b hb => ⟨hn b hb, (f2 b hb).2⟩
  refine codeAny_forLoop_any (fun n s' => Tk T s' ∧ ∃ i σ' H', Inv X pins σ' H' s' ∧ tn i s'.heap ∧ (∀ b ∈ fp, H' b = none) ∧ Wm i n σ' H') ?_ m0 ⟨k2, 0, σ, H2, I2, st2, fun b hb => (f2 b hb).1, w0⟩
  rintro n s3 ⟨k3, i, σ3, H3, I3, st3, fr3, w3⟩
  rcases turn i n σ3 H3 w3 with ⟨stop, qn⟩ | ⟨go, N, hN, step⟩
  · refine wpAny_passesOwn hp (thn (Tu.done X rfl rfl rfl hc i pins s3 σ3 H3 X.xe I3 (stat fr3) st3 stop) fun r s4 ⟨hr, I4⟩ => ?_)
    subst hr
    exact wpAny_execs_nil ⟨σ3, H3, I4, qn⟩
  · refine wpAny_passesOwn hp (thnT k3 (Tu.item X rfl rfl rfl hc i pins s3 σ3 H3 X.xe I3 (stat fr3) st3 go) fun r s4 k4 ⟨u, hr, h4⟩ => ?_)
    subst hr
    refine wpAny_passesOwn hp (thnT k4 h4 fun _ s5 k5 ⟨x, H5, I5, r5, y5, st5, fr5⟩ => ?_)
    have J5 := I5.pinned (stat fr5) (Tu.obj _ _ st5)
    refine wpAny_passesOwn hp (thnT k5 (step x H5 y5 _ s5 u k5 J5 r5) fun _ s6 k6 ⟨σ6, H6, I6, q6⟩ => ?_)
    refine wpAny_passesOwn hp (thnT k6 (q6 _ s6 k6 I6) fun f s7 k7 q7 => ?_)
    have pinA : ∀ {σ7 : L2.St} {H7 : Hp}, Inv X (pins ++ pinsAt fp s5.heap) σ7 H7 s7 → ∀ b ∈ fp, ∀ o, s5.heap.get? b = some o → s7.heap.get? b = some o ∧ H7 b = none := fun {σ7 H7} I7 b hb o e =>
      have z := I7.pin (b, o) (List.mem_append_right _ (List.mem_append_right _ (mem_pinsAt hb e)))
      ⟨z.1, z.2.1⟩
    have again : ∀ {σ7 : L2.St} {H7 : Hp}, Inv X (pins ++ pinsAt fp s5.heap) σ7 H7 s7 → N σ7 H7 → ∃ m, m < n ∧ (Tk T s7 ∧ ∃ i σ' H', Inv X pins σ' H' s7 ∧ tn i s7.heap ∧ (∀ b ∈ fp, H' b = none) ∧ Wm i m σ' H') := fun {σ7 H7} I7 n7 => by
      obtain ⟨m', hm, w7⟩ := hN σ7 H7 n7
      refine ⟨m', hm, k7, i + 1, σ7, H7, I7.unpinned, Tu.keep _ _ _ st5 fun b hb o e => (pinA I7 b hb o e).1, fun b hb => ?_, w7⟩
      obtain ⟨o, e, d⟩ := Tu.obj _ _ st5 b hb
      exact (pinA I7 b hb o e).2
    cases f with
    | next => obtain ⟨σ7, H7, I7, n7⟩ := q7; exact again I7 n7
    | cont => obtain ⟨σ7, H7, I7, n7⟩ := q7; exact again I7 n7
    | brk => obtain ⟨σ7, H7, I7, q7⟩ := q7; exact ⟨σ7, H7, I7.unpinned, q7⟩
    | ret u' => obtain ⟨v7, σ7, H7, I7, r7, q7⟩ := q7; exact ⟨v7, σ7, H7, I7.unpinned, r7, q7⟩
theorem ws_for {body rest : List Stmt} {R : RK} (hi : EI X tg iter τ M (fun ds M1 Ok => ∃ I : Nat → TEnv → Mem → Prop, I 0 τ M1 ∧ (∀ i τ M, I i τ M → Ok M) ∧
      (∀ i d τ M, ds[i]? = some d → I i τ M → GX X T tg d τ M (fun τ2 M2 => WS X T body τ2 M2 (loopR (I (i + 1)) (fun τ M => WS X T rest τ M R) R)) (fun x M2 => R (.ex x τ) M2)) ∧
      (∀ τ M, I ds.length τ M → WS X T rest τ M R)) (fun x M1 => R (.ex x τ) M1))
    (hp : PassesOwn (model X.prog X.w) X.A X.env X.xe := by first | exact PassesOwn.never | exact passes_of rfl | assumption) (hc : X.calm = true := by rfl) (hs : ∀ x, foldedSetIterable iter X.env x = pure x := by intro _; rfl) : WS X T (.For tg iter body [] pos :: rest) τ M R := .mk fun W tk σ G H hE hH D hR => by
  refine ws_step' (s_for hp hc hs ?_)
  refine hi.run W tk σ G H hE hH _ ?_ (ex_out hR hE)
  intro J ds M1 G1 H1 Ok ⟨I, h0, hOk, hb, hd⟩ s1 h1 w
  let Pv : Nat → L2.St → Hp → Prop := fun i σ' H' => ∃ τ' M' G', I i τ' M' ∧ DenE X.K τ' G' σ' ∧ Hst X.K G' M' H' ∧ Stp G M H G' M' H' ∧ Same G1 G'
  refine ⟨fun i m σ' H' => m = ds.length - i ∧ i ≤ ds.length ∧ Pv i σ' H', ⟨_, rfl, Nat.zero_le _, τ, M1, G1, h0, hE.up s1.gg, h1, s1, Same.refl _⟩, ?_⟩
  rintro i m σ' H' ⟨rfl, hle, τ', M', G', hI, e', h', s', g'⟩
  obtain ⟨w1, w2, w3⟩ := w G' M' H' g' h' (hOk _ _ _ hI)
  by_cases hlt : i < ds.length
  · refine .inr ⟨w1 i hlt, fun σ2 H2 => Pv (i + 1) σ2 H2, fun σ2 H2 q => ⟨ds.length - (i + 1), by omega, rfl, hlt, q⟩, fun x H2 y => ?_⟩
    obtain ⟨G2, s2, h2, dx⟩ := w3 i x H2 hlt y
    have hd' := List.getElem?_eq_getElem hlt
    refine (hb i _ τ' M' hd' hI).run W tk σ' G2 H2 x (e'.up s2.gg) h2 (dx _ hd') _ ?_ ?_
    · intro τ3 M3 G3 H3 σ3 b3 s3 h3 e3
      refine b3.run W tk σ3 G3 H3 e3 h3 _ ?_
      intro o M4 G4 H4 r4 s4 h4
      have st := ((s'.trans s2).trans s3).trans s4
      cases o with
      | nx τ4 => exact fun σ4 e4 => ⟨τ4, M4, G4, r4, e4, h4, st, ((g'.trans s2.gg).trans s3.gg).trans s4.gg⟩
      | ct τ4 => exact fun σ4 e4 => ⟨τ4, M4, G4, r4, e4, h4, st, ((g'.trans s2.gg).trans s3.gg).trans s4.gg⟩
      | bk τ4 => exact fun σ4 e4 => r4.run W tk σ4 G4 H4 e4 h4 D (hR.step st)
      | rt d4 => exact hR _ _ _ _ r4 st h4
      | ex x4 τ4 => exact hR _ _ _ _ r4 st h4
    · exact fun x4 M4 G4 H4 d4 r4 s4 h4 dx4 => hR _ _ _ _ r4 ((s'.trans s2).trans s4) h4 σ' d4 ((e'.up s2.gg).up s4.gg) dx4
  · have e : i = ds.length := by omega
    subst e
    exact .inl ⟨w2, (hd τ' M' hI).run W tk σ' G' H' e' h' D (hR.step s')⟩

/-! ### while -/
theorem s_while {t : Expr} {body : List Stmt} {σ : L2.St} {H : Hp} {D : Ends} (hp : PassesOwn (model X.prog X.w) X.A X.env X.xe)
    (q : ∃ Wm : Nat → L2.St → Hp → Prop, (∃ m, Wm m σ H) ∧ ∀ m σ H, Wm m σ H → tWT X T t σ H fun b H1 => if b = true then ∃ N : L2.St → Hp → Prop, (∀ σ' H', N σ' H' → ∃ m', m' < m ∧ Wm m' σ' H') ∧ tWSs X T body { D with nx := N, ct := N, bk := D.nx } σ H1 else D.nx σ H1) :
    tWS X T (.While t body [] pos) D σ H := fun pins s k0 I => by
  obtain ⟨Wm, ⟨m0, w0⟩, turn⟩ := q
  refine wpAny_While (codeAny_whileLoop (fun n s' => Tk T s' ∧ ∃ σ' H', Inv X pins σ' H' s' ∧ Wm n σ' H') ?_ m0 ⟨k0, σ, H, I, w0⟩)
  rintro n s1 ⟨k1, σ1, H1, I1, w1⟩
  refine wpAny_passesOwn hp (thnT k1 (turn n σ1 H1 w1 pins s1 k1 I1) fun b s2 k2 ⟨H2, I2, q2⟩ => ?_)
  cases b with
  | false => exact wpAny_execs_nil ⟨σ1, H2, I2, q2⟩
  | true =>
    obtain ⟨N, hN, q2⟩ := q2
    rw [if_pos rfl]
    have again : ∀ {s3 : Shared} {σ3 : L2.St} {H3 : Hp}, Tk T s3 → Inv X pins σ3 H3 s3 → N σ3 H3 → ∃ m', m' < n ∧ (Tk T s3 ∧ ∃ σ' H', Inv X pins σ' H' s3 ∧ Wm m' σ' H') := fun {s3 σ3 H3} k3 I3 n3 => by
      obtain ⟨m', hm, w3⟩ := hN σ3 H3 n3
      exact ⟨m', hm, k3, σ3, H3, I3, w3⟩
    refine wpAny_passesOwn hp (thnT k2 (q2 pins s2 k2 I2) fun f s3 k3 q3 => ?_)
    cases f with
    | next => obtain ⟨σ3, H3, I3, n3⟩ := q3; exact again k3 I3 n3
    | cont => obtain ⟨σ3, H3, I3, n3⟩ := q3; exact again k3 I3 n3
    | brk => exact q3
    | ret v => exact q3
theorem ws_while {t : Expr} {body rest : List Stmt} {R : RK} (I : Nat → TEnv → Mem → Prop) (h0 : ∃ m, I m τ M)
    (hb : ∀ m τ M, I m τ M → ET X T t τ M (fun k M1 => (k = true → WS X T body τ M1 (loopR (fun τ2 M2 => ∃ m', m' < m ∧ I m' τ2 M2) (fun τ M => WS X T rest τ M R) R)) ∧ (k = false → WS X T rest τ M1 R)) (fun x M2 => R (.ex x τ) M2))
    (hp : PassesOwn (model X.prog X.w) X.A X.env X.xe := by first | exact PassesOwn.never | exact passes_of rfl | assumption) : WS X T (.While t body [] pos :: rest) τ M R := .mk fun W tk σ G H hE hH D hR => by
  refine ws_step' (s_while hp ?_)
  let Pv : Nat → L2.St → Hp → Prop := fun m σ' H' => ∃ τ' M' G', I m τ' M' ∧ DenE X.K τ' G' σ' ∧ Hst X.K G' M' H' ∧ Stp G M H G' M' H'
  obtain ⟨m0, i0⟩ := h0
  refine ⟨Pv, ⟨m0, τ, M, G, i0, hE, hH, Stp.refl⟩, ?_⟩
  rintro m σ' H' ⟨τ', M', G', hI, e', h', s'⟩
  refine (hb m τ' M' hI).run W tk σ' G' H' e' h' _ ?_ ?_
  · intro k M1 G1 H1 ⟨k1, k2⟩ s1 h1
    cases k with
    | false => exact iteF ((k2 rfl).run W tk σ' G1 H1 (e'.up s1.gg) h1 D (hR.step (s'.trans s1)))
    | true =>
      refine iteT ?_
      have fin : ∀ {G4 H4 : Hp} {M4 : Mem} {τ4 : TEnv}, (∃ m', m' < m ∧ I m' τ4 M4) → Stp G1 M1 H1 G4 M4 H4 → Hst X.K G4 M4 H4 → ∀ σ4, DenE X.K τ4 G4 σ4 → ∃ m', m' < m ∧ Pv m' σ4 H4 := fun {G4 H4 M4 τ4} ⟨m', hm, hi⟩ s4 h4 σ4 e4 => ⟨m', hm, τ4, M4, G4, hi, e4, h4, (s'.trans s1).trans s4⟩
      refine ⟨fun σ4 H4 => ∃ m', m' < m ∧ Pv m' σ4 H4, fun _ _ q => q, ?_⟩
      refine (k1 rfl).run W tk σ' G1 H1 (e'.up s1.gg) h1 _ ?_
      intro o M4 G4 H4 r4 s4 h4
      have st := (s'.trans s1).trans s4
      cases o with
      | nx τ4 => exact fin r4 s4 h4
      | ct τ4 => exact fin r4 s4 h4
      | bk τ4 => exact fun σ4 e4 => r4.run W tk σ4 G4 H4 e4 h4 D (hR.step st)
      | rt d4 => exact hR _ _ _ _ r4 st h4
      | ex x4 τ4 => exact hR _ _ _ _ r4 st h4
  · exact fun x4 M4 G4 H4 d4 r4 s4 h4 dx4 => hR _ _ _ _ r4 (s'.trans s4) h4 σ' d4 (e'.up s4.gg) dx4

/-! ### targets of several names -/
theorem pgs_W {ts : List Expr} : PGs X ts (tWGs X false ts) := ⟨fun pins s σ H vs us Q I r h => h pins s us tk_f I r⟩
structure GXs (X : Cx) (T : Bool) (ts : List Expr) (ds : List Dat) (τ : TEnv) (M : Mem) (P : TEnv → Mem → Prop) : Prop where
  run : ∀ W, Takes X W → ∀ σ G H vs, DenE X.K τ G σ → Hst X.K G M H → DenL X.K G ds vs → ∀ Q, CG' X.K G M H P Q → tWGs X T ts vs σ H Q
theorem gxs_nil {P : TEnv → Mem → Prop} (h : P τ M) : GXs X false [] [] τ M P := .mk fun W tk σ G H vs hE hH dv Q hP pins s us _ I r => by
  rw [dv.nil_inv] at r
  exact pgs_nil.run pins s σ H [] us Q I r ⟨rfl, hP _ _ _ _ _ h Stp.refl hH hE⟩
theorem gxs_cons {t : Expr} {ts : List Expr} {d : Dat} {ds : List Dat} {P : TEnv → Mem → Prop} (h : GX X false t d τ M (fun τ1 M1 => GXs X false ts ds τ1 M1 P) E0')
    (he : (assignEach (t :: ts) X.env).map (·.2) = assign t X.env :: (assignEach ts X.env).map (·.2) := by rfl) : GXs X false (t :: ts) (d :: ds) τ M P := .mk fun W tk σ G H vs hE hH dv Q hP pins s us _ I r => by
  obtain ⟨v, vr, rfl, d1, d2⟩ := dv.cons_inv
  refine (pgs_cons pg_W pgs_W he).run pins s σ H _ us Q I r ⟨v, vr, rfl, ?_⟩
  exact h.run W tk σ G H v hE hH d1 _ (fun τ2 M2 G2 H2 σ2 p2 s2 h2 e2 => p2.run W tk σ2 G2 H2 vr e2 h2 (d2.up s2.gg) Q (hP.step s2)) noX
theorem gx_tup {es : List Expr} {k : Nat} {ds : List Dat} {P : TEnv → Mem → Prop} (h : GXs X false es ds τ M P) (hl : ds.length = (assignEach es X.env).length := by rfl) (hc : X.calm = true := by rfl)
    (hst : (assignEach es X.env).findIdx? (·.1) = none := by rfl) : GX X T (.Tuple es k pos) (.tup ds) τ M P E := .mk fun W tk σ G H v hE hH dv Q hP hX => by
  obtain ⟨a, vs, rfl, hq, hd⟩ := dv.tup_inv
  exact tWG_of (pg_tup hc pgs_W rfl hst) ⟨a, vs, rfl, Same.tpl hH.sub (SqT.of hq), by rw [hd.length, hl], h.run W tk σ G H vs hE hH hd Q hP⟩
end
end Kh

set_option Elab.async false
set_option linter.all false
set_option maxRecDepth 100000
set_option maxHeartbeats 1000000
namespace Kh
open PySem PySem.Spec L2

/-! ### slots that a comprehension wipes -/
theorem wipe_get {σ : L2.St} : ∀ {vs : List Nat} {j : Nat}, (wipe σ vs)[j]? = if j ∈ vs ∧ j < σ.length then some none else σ[j]?
  | [], j => by simp [wipe]
  | v :: vs, j => by
    show ((wipe σ vs).set v none)[j]? = _
    by_cases h : v = j
    · subst h
      by_cases hl : v < σ.length
      · rw [List.getElem?_set_self (by rw [wipe_length]; exact hl), if_pos ⟨List.mem_cons_self, hl⟩]
      · rw [if_neg (fun z => hl z.2), List.getElem?_eq_none (by rw [List.length_set, wipe_length]; omega), List.getElem?_eq_none (by omega)]
    · rw [List.getElem?_set_ne h, wipe_get]
      by_cases hm : j ∈ vs
      · simp [hm]
      · have : ¬ j ∈ v :: vs := fun z => (List.mem_cons.mp z).elim (fun e => h e.symm) hm
        simp [hm, this]
theorem wipe_ext {σ σ' : L2.St} {vs : List Nat} (hl : σ'.length = σ.length) (h : ∀ j, j ∉ vs → σ'[j]? = σ[j]?) : wipe σ' vs = wipe σ vs := by
  apply List.ext_getElem?
  intro j
  rw [wipe_get, wipe_get, hl]
  by_cases c : j ∈ vs ∧ j < σ.length
  · rw [if_pos c, if_pos c]
  · rw [if_neg c, if_neg c]
    by_cases m : j ∈ vs
    · have : ¬ j < σ.length := fun z => c ⟨m, z⟩
      rw [List.getElem?_eq_none (by omega), List.getElem?_eq_none (by omega)]
    · exact h j m
theorem wipe_wipe {σ : L2.St} {vs : List Nat} : wipe (wipe σ vs) vs = wipe σ vs := wipe_ext (wipe_length σ vs) fun j hj => by
  rw [wipe_get, if_neg (fun z => hj z.1)]
/-- the data of the slots that a comprehension wipes -/
def wipeT (τ : TEnv) : List Nat → TEnv
  | [] => τ
  | v :: vs => (wipeT τ vs).set v none
theorem denE_wipe {K : PySem.W.Frag} {G : Hp} {τ : TEnv} {σ : L2.St} (h : DenE K τ G σ) : ∀ (vs : List Nat), DenE K (wipeT τ vs) G (wipe σ vs)
  | [] => h
  | v :: vs => fun j d e => by
    have e' : ((wipeT τ vs).set v none)[j]? = some (some d) := e
    show ∃ u, ((wipe σ vs).set v none)[j]? = some (some u) ∧ _
    by_cases c : v = j
    · subst c
      by_cases hl : v < (wipeT τ vs).length
      · rw [List.getElem?_set_self hl] at e'; cases e'
      · rw [List.getElem?_eq_none (by simpa using hl)] at e'; cases e'
    · rw [List.getElem?_set_ne c] at e' ⊢
      exact denE_wipe h vs j d e'

/-! ### a comprehension's block -/
abbrev Cx.Bk (X : Cx) (scope : Scope) (s : Shared) (H : Hp) (C : Addr) (cl : List (Str × Addr)) (fp : List Addr) : Cx := X.blk s H scope (compEnvC scope cl C X.env) fp
/-- a store at a comprehension's target: slots of vs alone change -/
def GC (X : Cx) (vs : List Nat) (tg : Expr) (d : Dat) (τ : TEnv) (M : Mem) (P : TEnv → Mem → Prop) : Prop :=
  ∀ σ G H v, DenE X.K τ G σ → Hst X.K G M H → Den X.K G d v → ∀ Q, (∀ τ' M' G' H' σ', P τ' M' → Stp G M H G' M' H' → Hst X.K G' M' H' → DenE X.K τ' G' σ' → σ'.length = σ.length → (∀ j, j ∉ vs → σ'[j]? = σ[j]?) → Q σ' H') → tWG X false tg v σ H Q
def GCs (X : Cx) (vs : List Nat) (ts : List Expr) (ds : List Dat) (τ : TEnv) (M : Mem) (P : TEnv → Mem → Prop) : Prop :=
  ∀ σ G H ws, DenE X.K τ G σ → Hst X.K G M H → DenL X.K G ds ws → ∀ Q, (∀ τ' M' G' H' σ', P τ' M' → Stp G M H G' M' H' → Hst X.K G' M' H' → DenE X.K τ' G' σ' → σ'.length = σ.length → (∀ j, j ∉ vs → σ'[j]? = σ[j]?) → Q σ' H') → tWGs X false ts ws σ H Q
section
variable {X : Cx} {T : Bool} {tg iter elt e a b c : Expr} {τ : TEnv} {M : Mem} {E : XKx} {pos p : Pos} {vs : List Nat} {P : PK'}
theorem gc_name {x : Str} {d : Dat} {P : TEnv → Mem → Prop} (h : P (τ.set (ixIn X.N x) (some d)) M) (hv : ixIn X.N x ∈ vs := by first | decide | exact of_decide_eq_true (by kernel_rfl)) (hi : X.N[ixIn X.N x]? = some x := by rfl) (hx : Loc X.env.scope x := by first | exact Or.inl rfl | exact Or.inr rfl) (hN : X.N.Nodup := by first | decide +kernel | exact of_decide_eq_true (by kernel_rfl))
    (hf : X.fn x = true ∨ X.env.scope.names.lookup x = some .local := by first | exact .inl rfl | exact .inr rfl | assumption) : GC X vs (.Name x p) d τ M P := fun σ G H v hE hH dv Q hQ => tWG_len fun hl => by
  refine tWG_of (pg_name hN hi hx hf) ?_
  have hlt : ixIn X.N x < σ.length := by rw [hl]; exact (List.getElem?_eq_some_iff.mp hi).1
  exact hQ _ _ _ _ _ h Stp.refl hH (hE.set hlt dv) (List.length_set) fun j hj => List.getElem?_set_ne (fun z => hj (by rw [← z]; exact hv))
theorem gcs_nil {P : TEnv → Mem → Prop} (h : P τ M) : GCs X vs [] [] τ M P := fun σ G H ws hE hH dv Q hQ pins s us _ I r => by
  rw [dv.nil_inv] at r
  exact pgs_nil.run pins s σ H [] us Q I r ⟨rfl, hQ _ _ _ _ _ h Stp.refl hH hE rfl fun _ _ => rfl⟩
theorem gcs_cons {t : Expr} {ts : List Expr} {d : Dat} {ds : List Dat} {P : TEnv → Mem → Prop} (h : GC X vs t d τ M (fun τ1 M1 => GCs X vs ts ds τ1 M1 P))
    (he : (assignEach (t :: ts) X.env).map (·.2) = assign t X.env :: (assignEach ts X.env).map (·.2) := by rfl) : GCs X vs (t :: ts) (d :: ds) τ M P := fun σ G H ws hE hH dv Q hQ pins s us _ I r => by
  obtain ⟨v, vr, rfl, d1, d2⟩ := dv.cons_inv
  refine (pgs_cons pg_W pgs_W he).run pins s σ H _ us Q I r ⟨v, vr, rfl, ?_⟩
  refine h σ G H v hE hH d1 _ (fun τ2 M2 G2 H2 σ2 p2 s2 h2 e2 l2 k2 => p2 σ2 G2 H2 vr e2 h2 (d2.up s2.gg) Q (fun τ3 M3 G3 H3 σ3 p3 s3 h3 e3 l3 k3 => hQ _ _ _ _ _ p3 (s2.trans s3) h3 e3 (l3.trans l2) fun j hj => (k3 j hj).trans (k2 j hj)))
theorem gc_tup {es : List Expr} {k : Nat} {ds : List Dat} {P : TEnv → Mem → Prop} (h : GCs X vs es ds τ M P) (hl : ds.length = (assignEach es X.env).length := by rfl) (hc : X.calm = true := by rfl)
    (hst : (assignEach es X.env).findIdx? (·.1) = none := by rfl) : GC X vs (.Tuple es k pos) (.tup ds) τ M P := fun σ G H v hE hH dv Q hQ => by
  obtain ⟨a, ws, rfl, hq, hd⟩ := dv.tup_inv
  exact tWG_of (pg_tup hc pgs_W rfl hst) ⟨a, ws, rfl, Same.tpl hH.sub (SqT.of hq), by rw [hd.length, hl], h σ G H ws hE hH hd Q hQ⟩
/-- the tests of a clause -/
def tWIf (X : Cx) (ifs : List Expr) : TT := fun σ H Q => ∀ pins s, Inv X pins σ H s →
    wpAny (model X.prog X.w) X.A (forIn ifs true fun c r => if r = true then do let ok ← isTrue c X.env (eval c X.env); pure (ForInStep.yield ok) else pure (ForInStep.yield r)) (TP X pins σ Q) X.xe s
def EFs (X : Cx) (ifs : List Expr) (τ : TEnv) (M : Mem) (P : Bool → Mem → Prop) : Prop :=
  ∀ σ G H, DenE X.K τ G σ → Hst X.K G M H → ∀ Q, CT' X.K G M H P Q → tWIf X ifs σ H Q
theorem ef_nil {P : Bool → Mem → Prop} (h : P true M) : EFs X [] τ M P := fun σ G H hE hH Q hQ pins s I => pts_nil.run pins s σ H Q I (hQ _ _ _ _ h Stp.refl hH)
theorem ef_one {P : Bool → Mem → Prop} (h : ET X false c τ M P E0') : EFs X [c] τ M P := fun σ G H hE hH Q hQ pins s I => (pts_one pt_W).run pins s σ H Q I (h.run _ takes0 σ G H hE hH Q hQ noX)

def gFam (X : Cx) (scope : Scope) (tg : Expr) : TG := fun v σ H Q => ∀ (s : Shared) (H0 : Hp) (C : Addr) (cl : List (Str × Addr)) (fp : List Addr), tWG (Cx.Bk X scope s H0 C cl fp) false tg v σ H Q
def iFam (X : Cx) (scope : Scope) (ifs : List Expr) : TT := fun σ H Q => ∀ (s : Shared) (H0 : Hp) (C : Addr) (cl : List (Str × Addr)) (fp : List Addr), tWIf (Cx.Bk X scope s H0 C cl fp) ifs σ H Q
def eFam (X : Cx) (scope : Scope) (elt : Expr) : TE := fun σ H Q => ∀ (s : Shared) (H0 : Hp) (C : Addr) (cl : List (Str × Addr)) (fp : List Addr), tW (Cx.Bk X scope s H0 C cl fp) false elt σ H Q
theorem pg_fam {scope : Scope} (s : Shared) (H0 : Hp) (C : Addr) (cl : List (Str × Addr)) (fp : List Addr) : PG (Cx.Bk X scope s H0 C cl fp) tg (gFam X scope tg) := ⟨fun pins s' σ H' v u Q I r q => q s H0 C cl fp pins s' u tk_f I r⟩
theorem pt_fam {scope : Scope} {ifs : List Expr} (s : Shared) (H0 : Hp) (C : Addr) (cl : List (Str × Addr)) (fp : List Addr) : PTs (Cx.Bk X scope s H0 C cl fp) ifs (iFam X scope ifs) := ⟨fun pins s' σ H' Q I q => q s H0 C cl fp pins s' I⟩
theorem pe_fam {scope : Scope} (s : Shared) (H0 : Hp) (C : Addr) (cl : List (Str × Addr)) (fp : List Addr) : PE (Cx.Bk X scope s H0 C cl fp) elt (eFam X scope elt) := ⟨fun pins s' σ H' Q I q => q s H0 C cl fp pins s' tk_f I⟩
/-- the reading of a comprehension: the new list is P's -/
theorem lc_read {scope : Scope} (hi : EI X tg iter τ M (fun ds M1 Ok => ds.length ≤ sizeLine ∧ ∃ I : Nat → List Dat → Mem → Prop, I 0 [] M1 ∧ (∀ i acc M, I i acc M → Ok M) ∧
      (∀ i d acc M, ds[i]? = some d → I i acc M → ∀ (s : Shared) (H : Hp) (C : Addr) (cl : List (Str × Addr)) (fp : List Addr), GC (Cx.Bk X scope s H C cl fp) vs tg d (wipeT τ vs) M (fun τ2 M2 => ∀ (s : Shared) (H : Hp) (C : Addr) (cl : List (Str × Addr)) (fp : List Addr),
        EFs (Cx.Bk X scope s H C cl fp) ifs τ2 M2 (fun b M3 => (b = true → ∀ (s : Shared) (H : Hp) (C : Addr) (cl : List (Str × Addr)) (fp : List Addr), EX (Cx.Bk X scope s H C cl fp) false elt τ2 M3 (fun y M4 => I (i + 1) (acc ++ [y]) M4) E0') ∧ (b = false → I (i + 1) acc M3)))) ∧
      (∀ acc M, I ds.length acc M → P (.lst acc) M)) E)
    {W : WX} (tk : Takes X W) {σ : L2.St} {G H : Hp} (hE : DenE X.K τ G σ) (hH : Hst X.K G M H) {Q : VK} (hP : CE' X.K G M H P Q) (hX : CX' X.K G M H E (fun c d H2 => W c d σ H2)) :
    tLc (tWI X false tg iter) (gFam X scope tg) (iFam X scope ifs) (eFam X scope elt) vs σ H Q := by
  refine hi.run W tk σ G H hE hH _ ?_ hX
  intro J ds M1 G1 H1 Ok ⟨hz, I, h0, hOk, hb, hd⟩ s1 h1 w D hD
  have hDH : ∀ b o, b ∉ adr M → H b = some o → b ≠ D := fun b o n e z => by rw [← z, s1.hh b o n e] at hD; cases hD
  -- the new list at D, beside
  have gD : ∀ {G' H' : Hp} {M' : Mem}, Hst X.K G' M' H' → H' D ≠ none → True := fun _ _ => trivial
  let Pv : Nat → Hp → Prop := fun i H' => ∃ acc aV M' G', I i acc M' ∧ acc.length ≤ i ∧ Hst X.K G' M' H' ∧ Stp G M H G' M' H' ∧ Same G1 G' ∧ H' D = some (.lst aV) ∧ DenL X.K G' acc aV ∧ G' D = none ∧ D ∉ adr M'
  have laid : ∀ {G' H' : Hp} {M' : Mem} {xs : List V}, Hst X.K G' M' H' → G' D = none → D ∉ adr M' → Hst X.K G' M' (upd H' D (.lst xs)) := fun {G' H' M' xs} h g n =>
    ⟨fun b o e => by rw [upd_ne (fun z => by rw [z, g] at e; cases e)]; exact h.sub b o e, fun c hc => (h.mem c hc).up (Same.refl _) fun b hb o e => by rw [upd_ne (fun z => n (by rw [← z]; exact List.mem_flatMap.mpr ⟨c, hc, hb⟩))]; exact e, h.out, h.nd⟩
  have stp : ∀ {G' H' : Hp} {M' : Mem} {xs : List V}, Stp G M H G' M' H' → Stp G M H G' M' (upd H' D (.lst xs)) := fun {G' H' M' xs} s =>
    ⟨s.gg, fun b o n e => by rw [upd_ne (hDH b o n e)]; exact s.hh b o n e, s.fr, s.ad⟩
  have n0 : D ∉ adr M1 := fun z => h1.there D z hD
  have g0 : G1 D = none := h1.sub.free hD
  refine ⟨fun i m H' => m = ds.length - i ∧ i ≤ ds.length ∧ Pv i H', ⟨_, rfl, Nat.zero_le _, [], [], M1, G1, h0, Nat.zero_le _, laid h1 g0 n0, stp s1, Same.refl _, upd_same, .nil, g0, n0⟩, ?_⟩
  rintro i m H' ⟨rfl, hle, acc, aV, M', G', hI, hal, h', s', g', hDl, hda, hg', hn'⟩
  obtain ⟨w1, w2, w3⟩ := w G' M' H' g' h' (hOk _ _ _ hI)
  -- D through a step
  have thru : ∀ {G2 H2 : Hp} {M2 : Mem}, Stp G' M' H' G2 M2 H2 → H2 D = some (.lst aV) ∧ DenL X.K G2 acc aV ∧ G2 D = none ∧ D ∉ adr M2 := fun {G2 H2 M2} s =>
    ⟨s.hh D _ hn' hDl, hda.up s.gg, s.fr D (by rw [hDl]; exact fun z => nomatch z) hn' hg', fun z => (s.ad D z).elim hn' fun q => by rw [hDl] at q; cases q⟩
  by_cases hlt : i < ds.length
  · refine .inr ⟨w1 i hlt, fun H2 => Pv (i + 1) H2, fun H2 q => ⟨ds.length - (i + 1), by omega, rfl, hlt, q⟩, fun x H2 y => ?_⟩
    obtain ⟨G2, s2, h2, dx⟩ := w3 i x H2 hlt y
    have hd' := List.getElem?_eq_getElem hlt
    have eW : DenE X.K (wipeT τ vs) G2 (wipe σ vs) := denE_wipe ((hE.up s'.gg).up s2.gg) vs
    intro sA HA CA clA fpA
    refine hb i _ acc M' hd' hI sA HA CA clA fpA (wipe σ vs) G2 H2 x eW h2 (dx _ hd') _ ?_
    intro τ3 M3 G3 H3 σ3 p3 s3 h3 e3 l3 k3
    refine ⟨?_, fun sB HB CB clB fpB => ?_⟩
    · rw [wipe_ext l3 k3, wipe_wipe]
    refine p3 sB HB CB clB fpB σ3 G3 H3 e3 h3 _ ?_
    intro bb M4 G4 H4 ⟨p4, p4'⟩ s4 h4
    have s24 := (s2.trans s3).trans s4
    cases bb with
    | false =>
      refine iteF ?_
      obtain ⟨t1, t2, t3, t4⟩ := thru s24
      exact ⟨acc, aV, M4, G4, p4' rfl, by omega, h4, s'.trans s24, g'.trans s24.gg, t1, t2, t3, t4⟩
    | true =>
      refine iteT fun sC HC CC clC fpC => ?_
      refine (p4 rfl sC HC CC clC fpC).run _ takes0 σ3 G4 H4 (e3.up s4.gg) h4 _ ?_ noX
      intro y5 M5 v5 G5 H5 p5 s5 h5 d5
      have s25 := s24.trans s5
      obtain ⟨t1, t2, t3, t4⟩ := thru s25
      refine ⟨aV, t1, by rw [hda.length]; omega, acc ++ [y5], aV ++ [v5], M5, G5, p5, by rw [List.length_append]; simp; omega, laid h5 t3 t4, stp (s'.trans s25), g'.trans s25.gg, upd_same, t2.snoc d5, t3, t4⟩
  · have e : i = ds.length := by omega
    subst e
    refine .inl ⟨w2, ?_⟩
    have up : Same G' (upd G' D (.lst aV)) := fun b o e => by rw [upd_ne (ne_of_none e hg')]; exact e
    have hF : Hst X.K (upd G' D (.lst aV)) M' H' := ⟨fun b o e => by
      by_cases c : b = D
      · subst c; rw [upd_same] at e; cases e; exact hDl
      · rw [upd_ne c] at e; exact h'.sub b o e, fun c hc => (h'.mem c hc).up up fun _ _ _ e => e, fun b hb => by rw [upd_ne (fun z => hn' (by rw [← z]; exact hb))]; exact h'.out b hb, h'.nd⟩
    have sF : Stp G M H (upd G' D (.lst aV)) M' H' := ⟨s'.gg.trans up, s'.hh, fun b hb n g => by
      rw [upd_ne (fun z => ?_)]
      · exact s'.fr b hb n g
      · cases q : H b with
        | none => exact hb q
        | some o => exact hDH b o n q z, s'.ad⟩
    exact hP _ _ _ _ _ (hd acc M' hI) sF hF (den_lst upd_same (hda.up up))
theorem ex_lc {scope : Scope} {ifs : List Expr} (own : List (Str × Nat)) (h : EI X tg iter τ M (fun ds M1 Ok => ds.length ≤ sizeLine ∧ ∃ I : Nat → List Dat → Mem → Prop, I 0 [] M1 ∧ (∀ i acc M, I i acc M → Ok M) ∧
      (∀ i d acc M, ds[i]? = some d → I i acc M → ∀ (s : Shared) (H : Hp) (C : Addr) (cl : List (Str × Addr)) (fp : List Addr), GC (Cx.Bk X scope s H C cl fp) (own.map (·.2)) tg d (wipeT τ (own.map (·.2))) M (fun τ2 M2 => ∀ (s : Shared) (H : Hp) (C : Addr) (cl : List (Str × Addr)) (fp : List Addr),
        EFs (Cx.Bk X scope s H C cl fp) ifs τ2 M2 (fun b M3 => (b = true → ∀ (s : Shared) (H : Hp) (C : Addr) (cl : List (Str × Addr)) (fp : List Addr), EX (Cx.Bk X scope s H C cl fp) false elt τ2 M3 (fun y M4 => I (i + 1) (acc ++ [y]) M4) E0') ∧ (b = false → I (i + 1) acc M3)))) ∧
      (∀ acc M, I ds.length acc M → P (.lst acc) M)) E)
    (ok : BlkOk X.N X.env.scope scope own := by exact blkOk_by (by first | decide +kernel | kernel_rfl)) (hN : X.N.Nodup := by first | decide +kernel | exact of_decide_eq_true (by kernel_rfl)) (hc : X.calm = true := by rfl) (hs : ∀ x, foldedSetIterable iter X.env x = pure x := by intro _; rfl) :
    EX X T (.ListComp elt [⟨tg, iter, ifs, 0⟩] scope pos) τ M P E := .mk fun W tk σ G H hE hH Q hP hX =>
  tW_of (pe_lc hc hN pi_W ok pg_fam pt_fam pe_fam hs) (lc_read h tk hE hH hP hX)
theorem ws_setLc {x : Str} {px : Pos} {scope : Scope} {ifs : List Expr} {lpos : Pos} {rest : List Stmt} {R : RK} (own : List (Str × Nat)) (h : EI X tg iter τ M (fun ds M1 Ok => ds.length ≤ sizeLine ∧ ∃ I : Nat → List Dat → Mem → Prop, I 0 [] M1 ∧ (∀ i acc M, I i acc M → Ok M) ∧
      (∀ i d acc M, ds[i]? = some d → I i acc M → ∀ (s : Shared) (H : Hp) (C : Addr) (cl : List (Str × Addr)) (fp : List Addr), GC (Cx.Bk X scope s H C cl fp) (own.map (·.2)) tg d (wipeT τ (own.map (·.2))) M (fun τ2 M2 => ∀ (s : Shared) (H : Hp) (C : Addr) (cl : List (Str × Addr)) (fp : List Addr),
        EFs (Cx.Bk X scope s H C cl fp) ifs τ2 M2 (fun b M3 => (b = true → ∀ (s : Shared) (H : Hp) (C : Addr) (cl : List (Str × Addr)) (fp : List Addr), EX (Cx.Bk X scope s H C cl fp) false elt τ2 M3 (fun y M4 => I (i + 1) (acc ++ [y]) M4) E0') ∧ (b = false → I (i + 1) acc M3)))) ∧
      (∀ acc M, I ds.length acc M → WS X T rest (τ.set (ixIn X.N x) (some (.lst acc))) M R)) (fun x M1 => R (.ex x τ) M1))
    (hi : X.N[ixIn X.N x]? = some x := by rfl) (hyl : X.env.scope.names.lookup x = some .local := by rfl) (hsw : swapsWith (.ListComp elt [⟨tg, iter, ifs, 0⟩] scope lpos) (some (.Name x px)) pos.line X.env = pure true := by exact sw_true rfl rfl rfl (by first | decide +kernel | kernel_rfl))
    (ok : BlkOk X.N X.env.scope scope own := by exact blkOk_by (by first | decide +kernel | kernel_rfl)) (hN : X.N.Nodup := by first | decide +kernel | exact of_decide_eq_true (by kernel_rfl)) (hc : X.calm = true := by rfl) (hs : ∀ x, foldedSetIterable iter X.env x = pure x := by intro _; rfl) :
    WS X T (.Assign [.Name x px] (.ListComp elt [⟨tg, iter, ifs, 0⟩] scope lpos) pos :: rest) τ M R := .mk fun W tk σ G H hE hH D hR => tWSs_len fun hl => by
  refine ws_step (ps_setLc hc hN hi hyl hsw pi_W ok pg_fam pt_fam pe_fam hs) ?_
  have hlt : ixIn X.N x < σ.length := by rw [hl]; exact (List.getElem?_eq_some_iff.mp hi).1
  exact lc_read (P := fun d M => ∃ acc, d = .lst acc ∧ WS X T rest (τ.set (ixIn X.N x) (some (.lst acc))) M R) (.mk fun W' tk' σ' G' H' hE' hH' R' hR' hX' => h.run W' tk' σ' G' H' hE' hH' R' (fun J ds M1 G1 H1 Ok ⟨hz, I, i1, i2, i3, i4⟩ => hR' J ds M1 G1 H1 Ok ⟨hz, I, i1, i2, i3, fun acc M hi => ⟨acc, rfl, i4 acc M hi⟩⟩) hX') tk hE hH
    (fun d M2 v G2 H2 ⟨acc, ed, r⟩ s h2 dv => by subst ed; exact r.run W tk _ G2 H2 ((hE.up s.gg).set hlt dv) h2 D (hR.step s)) (ex_out hR hE)
end
end Kh

set_option Elab.async false
set_option linter.all false
set_option maxRecDepth 100000
set_option maxHeartbeats 1000000
namespace Kh
open PySem PySem.Spec L2

section
variable {X : Cx} {T : Bool} {τ : TEnv} {M : Mem} {P : PK'} {E : XKx} {e a b c o : Expr} {es : List Expr} {pos apos : Pos} {R : RK} {rest : List Stmt}
theorem EX.t (h : EX X false e τ M P E) : EX X T e τ M P E := .mk fun W tk σ G H hE hH Q hP hX pins s _ I => h.run W tk σ G H hE hH Q hP hX pins s tk_f I
theorem ET.t {P : Bool → Mem → Prop} (h : ET X false e τ M P E) : ET X T e τ M P E := .mk fun W tk σ G H hE hH Q hP hX pins s _ I => h.run W tk σ G H hE hH Q hP hX pins s tk_f I
theorem WS.t {ss : List Stmt} (h : WS X false ss τ M R) : WS X T ss τ M R := .mk fun W tk σ G H hE hH D hR pins s _ I => h.run W tk σ G H hE hH D hR pins s tk_f I

/-! ### operators by values -/
theorem o_scal {f : Value → Value → Sem Value} {r : R2} {x y : Dat} (v u : V) (hv : ∀ G w, Den X.K G x w → w = v) (hu : ∀ G w, Den X.K G y w → w = u) (ho : OpR X f r) (h : ∀ G H, Hst X.K G M H → ∀ Q, CE' X.K G M H P Q → r v u H Q) : OP X T f x y M P :=
  op_of ho fun G H v' u' hH dx dy Q hP => by rw [hv _ _ dx, hu _ _ dy]; exact h G H hH Q hP
theorem o_eqS {x y : Dat} (v u : V) (hv : ∀ G w, Den X.K G x w → w = v) (hu : ∀ G w, Den X.K G y w → w = u) (hs : scal v u = true) (h : P (.bl (decide (v = u))) M) : OP X T (compareOp .Eq) x y M P := o_scal v u hv hu op_eq fun G H hH Q hP => ⟨hs, hP _ _ _ _ _ h Stp.refl hH den_bl⟩
theorem o_neS {x y : Dat} (v u : V) (hv : ∀ G w, Den X.K G x w → w = v) (hu : ∀ G w, Den X.K G y w → w = u) (hs : scal v u = true) (h : P (.bl (!decide (v = u))) M) : OP X T (compareOp .NotEq) x y M P := o_scal v u hv hu op_ne fun G H hH Q hP => ⟨hs, hP _ _ _ _ _ h Stp.refl hH den_bl⟩
theorem vint {a b : Int} : decide (V.int a = V.int b) = decide (a = b) := by by_cases h : a = b <;> simp [h]
theorem vstr {a b : Str} : decide (V.str a = V.str b) = decide (a = b) := by by_cases h : a = b <;> simp [h]
theorem vbl {a b : Bool} : decide (V.bl a = V.bl b) = decide (a = b) := by by_cases h : a = b <;> simp [h]
theorem o_eqI {i j : Int} (h : P (.bl (decide (i = j))) M) : OP X T (compareOp .Eq) (.int i) (.int j) M P := o_eqS (.int i) (.int j) (fun _ _ d => d.int_inv) (fun _ _ d => d.int_inv) rfl (by rw [vint]; exact h)
theorem o_neI {i j : Int} (h : P (.bl (!decide (i = j))) M) : OP X T (compareOp .NotEq) (.int i) (.int j) M P := o_neS (.int i) (.int j) (fun _ _ d => d.int_inv) (fun _ _ d => d.int_inv) rfl (by rw [vint]; exact h)
theorem o_eqT {i j : Str} (h : P (.bl (decide (i = j))) M) : OP X T (compareOp .Eq) (.str i) (.str j) M P := o_eqS (.str i) (.str j) (fun _ _ d => d.str_inv) (fun _ _ d => d.str_inv) rfl (by rw [vstr]; exact h)
theorem o_neB {i j : Bool} (h : P (.bl (!decide (i = j))) M) : OP X T (compareOp .NotEq) (.bl i) (.bl j) M P := o_neS (.bl i) (.bl j) (fun _ _ d => d.bl_inv) (fun _ _ d => d.bl_inv) rfl (by rw [vbl]; exact h)
/-- is None -/
def Dat.isN : Dat → Bool
  | .non => true
  | _ => false
theorem den_isN {K : PySem.W.Frag} {G : Hp} {d : Dat} {v : V} (h : Den K G d v) (hr : ∀ u, d ≠ .raw u) : decide (v = .non) = d.isN := by
  cases d with
  | non => rw [h.non_inv]; rfl
  | bl b => rw [h.bl_inv]; rfl
  | int i => rw [h.int_inv]; rfl
  | str s => rw [h.str_inv]; rfl
  | raw u => exact absurd rfl (hr u)
  | dic0 => obtain ⟨p, rfl, _⟩ := h.dic0_inv; rfl
  | scr ns => obtain ⟨p, rfl, _⟩ := h.scr_inv; rfl
  | lst ds => obtain ⟨p, vs, rfl, _⟩ := h.lst_inv; rfl
  | tup ds => obtain ⟨p, vs, rfl, _⟩ := h.tup_inv; rfl
  | obj C ns ds => obtain ⟨p, dx, vs, rfl, _⟩ := h.obj_inv; rfl
  | xn a dd ns ds => obtain ⟨vs, rfl, _⟩ := h.xn_inv; rfl
  | «at» a d => obtain ⟨rfl, _⟩ := h.at_inv; rfl
theorem o_isN {x : Dat} (hr : ∀ u, x ≠ .raw u) (h : P (.bl x.isN) M) : OP X T (compareOp .Is) x .non M P := op_of op_isN fun G H v u hH dx dy Q hP => ⟨dy.non_inv, by rw [den_isN dx hr]; exact hP _ _ _ _ _ h Stp.refl hH den_bl⟩
/-- ints -/
theorem o_mul {i j : Int} (hc : CMulW i j) (h : P (.int (i * j)) M) : OP X T (binaryOp .Mult) (.int i) (.int j) M P := op_IIc op_mulW hc (fun _ => den_int) h
theorem o_mulS {i j : Int} (hc : (-(2 ^ 64) < i ∧ i < 2 ^ 64) ∨ (-(2 ^ 64) < j ∧ j < 2 ^ 64)) (h : P (.int (i * j)) M) : OP X T (binaryOp .Mult) (.int i) (.int j) M P := op_IIc op_mul hc (fun _ => den_int) h
theorem o_mod {i j : Int} (hc : 0 < j) (h : P (.int (i % j)) M) : OP X T (binaryOp .Mod) (.int i) (.int j) M P := op_IIc op_mod hc (fun _ => den_int) h
theorem o_div {i j : Int} (hc : CDivW i j) (h : P (.int (i / j)) M) : OP X T (binaryOp .FloorDiv) (.int i) (.int j) M P := op_IIc op_fdivW hc (fun _ => den_int) h
theorem o_shr {i j : Int} (hc : 0 ≤ j) (h : P (.int (i / 2 ^ j.toNat)) M) : OP X T (binaryOp .RShift) (.int i) (.int j) M P := op_IIc op_shr hc (fun _ => den_int) h
theorem o_shl {i j : Int} (hc : CPow i j) (h : P (.int (i * 2 ^ j.toNat)) M) : OP X T (binaryOp .LShift) (.int i) (.int j) M P := op_IIc op_shl hc (fun _ => den_int) h
theorem o_bor {i j : Int} (h : P (.int (Builtin.bitOr i j)) M) : OP X T (binaryOp .BitOr) (.int i) (.int j) M P := op_II op_or (fun _ => den_int) h
theorem o_band {i j : Int} (h : P (.int (Builtin.bitAnd i j)) M) : OP X T (binaryOp .BitAnd) (.int i) (.int j) M P := op_II op_and (fun _ => den_int) h
theorem ex_neg (h : EX X T a τ M (fun d M1 => ∃ i, d = .int i ∧ P (.int (-i)) M1) E) : EX X T (.UnaryOp .USub a pos) τ M P E := .mk fun W tk σ G H hE hH Q hP hX pins s k I =>
  UnaryOp_ (thn (h.run W tk σ G H hE hH (fun x H1 => ∃ i, x = .int i ∧ Q (.int (-i)) H1) (fun d M1 v G1 H1 ⟨i, ed, hp⟩ s1 h1 dv => by subst ed; exact ⟨i, dv.int_inv, hP _ _ _ _ _ hp s1 h1 den_int⟩) hX pins s k I) fun v s1 ⟨x, H1, I1, r1, q⟩ => un_neg pins s1 σ H1 x v Q I1 r1 q)
where UnaryOp_ := @PyProof.Rows.UnaryOp_
/-- texts -/
theorem o_cat {i j : Str} (hl : i.length + j.length ≤ sizeLine) (h : P (.str (i ++ j)) M) : OP X T (binaryOp .Add) (.str i) (.str j) M P := op_of op_add_str fun G H v u hH dx dy Q hP => ⟨i, j, dx.str_inv, dy.str_inv, hl, hP _ _ _ _ _ h Stp.refl hH den_str⟩
theorem o_notInS {c : Nat} {z : Str} (h : P (.bl (!decide (c ∈ z.cps.toList))) M) : OP X T (compareOp .NotIn) (.str ⟨#[c]⟩) (.str z) M P := op_of op_notIn_sign fun G H v u hH dx dy Q hP => ⟨c, z, dx.str_inv, dy.str_inv, hP _ _ _ _ _ h Stp.refl hH den_bl⟩
/-- a text so many times -/
def repS (z : Str) (n : Int) : Str := ⟨(List.replicate n.toNat z.cps.toList).flatten.toArray⟩
theorem rep_fold : ∀ (n : Nat) (l acc : Array Nat), ((List.replicate n l).foldl (· ++ ·) acc).toList = acc.toList ++ (List.replicate n l.toList).flatten
  | 0, l, acc => by simp
  | n + 1, l, acc => by
    rw [List.replicate_succ, List.foldl_cons, rep_fold n l (acc ++ l), List.replicate_succ, List.flatten_cons, Array.toList_append, List.append_assoc]
theorem str_ext {x y : Str} (h : x.cps.toList = y.cps.toList) : x = y := by
  obtain ⟨x⟩ := x; obtain ⟨y⟩ := y
  congr 1
  exact Array.toList_inj.mp h
theorem op_repS : OpR X (binaryOp .Mult) (fun x y H Q => ∃ z n, x = .str z ∧ y = .int n ∧ (-(2 ^ 63) ≤ n ∧ n < 2 ^ 63) ∧ z.length * n.toNat ≤ sizeLine ∧ Q (.str (repS z n)) H) := by
  intro pins s σ H x y v u Q I rx ry h
  obtain ⟨z, n, rfl, rfl, ⟨b1, b2⟩, hl, q⟩ := h
  obtain ⟨t, rfl⟩ := rx
  obtain ⟨t', rfl⟩ := ry
  have hz : z.cps.size = z.length := rfl
  have sl : sizeLine = 16777216 := sizeLine_eq
  refine PySem.P.mul_str ?_ (fun h1 h2 h3 => ?_) (fun h1 h2 => ?_) ?_
  · rw [decide_eq_false (by omega), decide_eq_false (by omega)]; rfl
  · have hn : (1 : Int) ≤ n := by omega
    have : (z.length : Int) * n ≤ 16777216 := by
      have : ((z.length * n.toNat : Nat) : Int) ≤ 16777216 := by omega
      rwa [Int.natCast_mul, Int.toNat_of_nonneg (by omega)] at this
    have h4 : (z.length : Int) ≤ (2 ^ 63 - 1) / n := by
      rw [Int.le_ediv_iff_mul_le (by omega)]; omega
    omega
  · exact decide_eq_false (by omega)
  · have fin : ∀ (t'' : Tok) (k : Nat) (w : Str), w = repS z n → EP X pins σ Q (.str w t'') { s with toks := k } := fun t'' k w e => ⟨.str (repS z n), H, I.tok k, ⟨t'', by rw [e]⟩, q⟩
    split
    · refine ⟨by simp [Str.empty, Str.length, sl], fin _ _ _ (str_ext ?_)⟩
      have : n.toNat = 0 := by omega
      simp [repS, this, Str.empty]
    · split
      · rename_i h1 h2
        refine fin _ _ _ (str_ext ?_)
        rcases Bool.or_eq_true _ _ ▸ h2 with h2 | h2
        · have : n = 1 := by simpa using h2
          subst this
          simp [repS]
        · have : z.cps.toList = [] := by
            have : z.length = 0 := by simpa using h2
            rw [← hz] at this
            exact List.length_eq_zero_iff.mp (by simpa using this)
          simp [repS, this]
      · refine ⟨?_, fin _ _ _ (str_ext ?_)⟩
        · have : (⟨(List.replicate n.toNat z.cps).foldl (· ++ ·) #[]⟩ : Str).length = z.length * n.toNat := by
            show ((List.replicate n.toNat z.cps).foldl (· ++ ·) #[]).size = _
            rw [← Array.length_toList, rep_fold]
            simp [Nat.mul_comm, hz]
          rw [this]; exact hl
        · rw [rep_fold]; simp [repS]
theorem o_repS {z : Str} {n : Int} (hb : -(2 ^ 63) ≤ n ∧ n < 2 ^ 63) (hl : z.length * n.toNat ≤ sizeLine) (h : P (.str (repS z n)) M) : OP X T (binaryOp .Mult) (.str z) (.int n) M P := op_of op_repS fun G H v u hH dx dy Q hP => ⟨z, n, dx.str_inv, dy.int_inv, hb, hl, hP _ _ _ _ _ h Stp.refl hH den_str⟩
/-- lists -/
theorem o_catL {xs ys : List Dat} (hl : xs.length + ys.length ≤ sizeLine) (h : P (.lst (xs ++ ys)) M) : OP X T (binaryOp .Add) (.lst xs) (.lst ys) M P := op_of op_cat fun G H v u hH dx dy Q hP => by
  obtain ⟨p, vs, rfl, g1, d1⟩ := dx.lst_inv
  obtain ⟨q, us, rfl, g2, d2⟩ := dy.lst_inv
  refine ⟨p, q, vs, us, rfl, rfl, hH.sub _ _ g1, hH.sub _ _ g2, by rw [d1.length, d2.length]; exact hl, fun r hr => ?_⟩
  obtain ⟨s2, h2⟩ := Stp.new (o := .lst (vs ++ us)) hH hr
  exact hP _ _ _ _ _ h s2 h2 (den_lst upd_same ((d1.append d2).up s2.gg))
/-! ### subscripts -/
def IQ (K : PySem.W.Frag) (x y : Dat) (M : Mem) (P : PK') : Prop := ∀ G H v u, Hst K G M H → Den K G x v → Den K G y u → ∀ Q, CE' K G M H P Q → rIx K v u H Q
theorem ex_ix (h : EX X T a τ M (fun x M1 => EX X T b τ M1 (fun y M2 => IQ X.K x y M2 P) E) E) (hs : PlainIx b := by exact fun _ _ => rfl) : EX X T (.Subscript a b pos) τ M P E := by
  refine .mk ?_; intro W tk σ G H hE hH Q hP hX pins s k I
  have hA := h.run W tk σ G H hE hH (fun x H1 => tW X T b σ H1 fun y H2 => rIx X.K x y H2 Q) (fun x M1 v G1 H1 hb s1 h1 dx => hb.run W tk σ G1 H1 (hE.up s1.gg) h1 _ (fun y M2 u G2 H2 ho s2 h2 dy => ho G2 H2 v u h2 (dx.up s2.gg) dy Q (hP.step (s1.trans s2))) (hX.step s1)) hX
  exact PyProof.Rows.Subscript_ (thnT k (hA pins s k I) fun v s1 k1 ⟨x, H1, I1, r1, q1⟩ => thn (q1 pins s1 k1 I1) fun u s2 ⟨y, H2, I2, r2, q2⟩ => ix_seq a b pins s2 σ H2 x y v u Q I2 r1 r2 q2 (hs _ _))
theorem atI_den {K : PySem.W.Frag} {G : Hp} {ds : List Dat} {vs : List V} {i : Int} {d : Dat} (h : DenL K G ds vs) (e : atI ds i = some d) : ∃ v, atI vs i = some v ∧ Den K G d v := by
  unfold atI at e ⊢
  rw [h.length]
  cases q : ixN ds.length i with
  | none => rw [q] at e; cases e
  | some j => rw [q] at e; exact h.get e
theorem i_lst {ds : List Dat} {i : Int} {d : Dat} (e : atI ds i = some d) (h : P d M) {K : PySem.W.Frag} : IQ K (.lst ds) (.int i) M P := fun G H v u hH dx dy Q hP => by
  obtain ⟨p, vs, rfl, g, dl⟩ := dx.lst_inv
  obtain ⟨w, e1, d1⟩ := atI_den dl e
  exact .inl ⟨p, vs, i, w, rfl, dy.int_inv, SqL.of (hH.sub _ _ g), e1, hP _ _ _ _ _ h Stp.refl hH d1⟩
theorem i_tup {ds : List Dat} {i : Int} {d : Dat} (e : atI ds i = some d) (h : P d M) {K : PySem.W.Frag} : IQ K (.tup ds) (.int i) M P := fun G H v u hH dx dy Q hP => by
  obtain ⟨p, vs, rfl, g, dl⟩ := dx.tup_inv
  obtain ⟨w, e1, d1⟩ := atI_den dl e
  exact .inr (.inl ⟨p, vs, i, w, rfl, dy.int_inv, SqT.of (hH.sub _ _ g), e1, hP _ _ _ _ _ h Stp.refl hH d1⟩)
theorem i_str {z : Str} {i : Int} {c : Nat} (hl : z.length ≤ sizeLine) (e : atI z.cps.toList i = some c) (h : P (.str ⟨#[c]⟩) M) {K : PySem.W.Frag} : IQ K (.str z) (.int i) M P := fun G H v u hH dx dy Q hP =>
  .inr (.inr ⟨z, i, c, dx.str_inv, dy.int_inv, hl, e, hP _ _ _ _ _ h Stp.refl hH den_str⟩)
end
end Kh

set_option Elab.async false
set_option linter.all false
set_option maxRecDepth 100000
set_option maxHeartbeats 1000000
namespace Kh
open PySem PySem.Spec L2

section
variable {X : Cx} {T : Bool} {τ : TEnv} {M : Mem} {P : PK'} {E : XKx} {e a b c o : Expr} {es : List Expr} {pos apos p2 : Pos} {R : RK} {rest : List Stmt}
/-! ### slices -/
def tWO (X : Cx) (T : Bool) (e : Option Expr) : TO := fun σ H Q => ∀ pins s, Tk T s → Inv X pins σ H s → wpAny (model X.prog X.w) X.A (evalPart e X.env) (fun u s' => ∃ o H', Inv X pins σ H' s' ∧ IsPart u o ∧ Q o H') X.xe s
structure EP' (X : Cx) (T : Bool) (e : Option Expr) (τ : TEnv) (M : Mem) (P : Option Int → Mem → Prop) (E : XKx) : Prop where
  run : ∀ W, Takes X W → ∀ σ G H, DenE X.K τ G σ → Hst X.K G M H → ∀ Q : Option Int → Hp → Prop, (∀ i M2 G2 H2, P i M2 → Stp G M H G2 M2 H2 → Hst X.K G2 M2 H2 → Q i H2) → CX' X.K G M H E (fun c d H2 => W c d σ H2) → tWO X T e σ H Q
theorem ep_none {P : Option Int → Mem → Prop} (h : P none M) : EP' X T none τ M P E := .mk fun W tk σ G H hE hH Q hP hX pins s k I => po_none.run pins s σ H Q I (hP _ _ _ _ h Stp.refl hH)
theorem ep_some {P : Option Int → Mem → Prop} (h : EX X T e τ M (fun d M1 => ∃ i, d = .int i ∧ P (some i) M1) E) : EP' X T (some e) τ M P E := .mk fun W tk σ G H hE hH Q hP hX pins s k I => by
  rw [evalPart_some]
  refine thn (h.run W tk σ G H hE hH (fun x H1 => ∃ i, x = .int i ∧ Q (some i) H1) (fun d M1 v G1 H1 ⟨i, ed, hp⟩ s1 h1 dv => by subst ed; exact ⟨i, dv.int_inv, hP _ _ _ _ hp s1 h1⟩) hX pins s k I) fun u s1 ⟨x, H1, I1, r1, i, ex, q⟩ => ?_
  subst ex
  obtain ⟨t, rfl⟩ := r1
  exact ⟨some i, H1, I1, .int i t, q⟩
/-- a slice, by values -/
def SQ (X : Cx) (x : Dat) (lo hi : Option Int) (M : Mem) (P : PK') : Prop := ∃ r, SlR X r ∧ ∀ G H v, Hst X.K G M H → Den X.K G x v → ∀ Q, CE' X.K G M H P Q → r v lo hi H Q
theorem ex_sl {lo hi : Option Expr} (h : EX X T e τ M (fun x M1 => EP' X T lo τ M1 (fun l M2 => EP' X T hi τ M2 (fun u M3 => SQ X x l u M3 P) E) E) E) : EX X T (.Subscript e (.Slice lo hi none p2) pos) τ M P E := by
  refine .mk ?_; intro W tk σ G H hE hH Q hP hX pins s k I
  have hA := h.run W tk σ G H hE hH (fun x H1 => tWO X T lo σ H1 fun l H2 => tWO X T hi σ H2 fun u H3 => ∃ r, SlR X r ∧ r x l u H3 Q) (fun x M1 v G1 H1 hb s1 h1 dx =>
    hb.run W tk σ G1 H1 (hE.up s1.gg) h1 _ (fun l M2 G2 H2 hb2 s2 h2 => hb2.run W tk σ G2 H2 ((hE.up s1.gg).up s2.gg) h2 _ (fun u M3 G3 H3 ⟨r, hr, hq⟩ s3 h3 =>
      ⟨r, hr, hq G3 H3 v h3 ((dx.up s2.gg).up s3.gg) Q (hP.step ((s1.trans s2).trans s3))⟩) (hX.step (s1.trans s2))) (hX.step s1)) hX
  refine PyProof.Rows.Subscript_ (thnT k (hA pins s k I) fun v s1 k1 ⟨x, H1, I1, r1, q1⟩ => ?_)
  refine wpAny_Slice (thnT k1 (q1 pins s1 k1 I1) fun vl s2 k2 ⟨l, H2, I2, pl, q2⟩ => thn (q2 pins s2 k2 I2) fun vu s3 ⟨u, H3, I3, pu, r, hr, q3⟩ => ?_)
  rw [evalPart_none]
  refine wpAny_pure ?_
  have I4 : Inv X pins σ H3 { s3 with heap := s3.heap.push { cls := .type "slice", data := .fields #[vl, vu, .none] } } := I3.kept (t' := s3.toks) fun b ob q => Heap.get?_push_of_some _ q
  obtain ⟨T', id, hT, ht, hg⟩ := hr pins { s3 with heap := s3.heap.push { cls := .type "slice", data := .fields #[vl, vu, .none] } } σ H3 x v vl vu l u s3.heap.objs.size Q I4 r1 (Heap.IsSliceOf.new ..) pl pu q3
  show wpAny (model X.prog X.w) X.A (PyProof.Rows.subscriptTail e (.Slice lo hi none p2) v (.ref s3.heap.objs.size)) (EP X pins σ Q) X.xe { s3 with heap := s3.heap.push { cls := .type "slice", data := .fields #[vl, vu, .none] } }
  exact PyProof.Rows.tail_any (ops := [.ref s3.heap.objs.size, v]) ht hT hg (by with_unfolding_all rfl)
/-- the items between two places -/
def cutD {α : Type} (xs : List α) (lo hi : Option Int) : List α := (xs.drop (HT.sIx xs.length 0 lo)).take (HT.sIx xs.length xs.length hi - HT.sIx xs.length 0 lo)
theorem denL_cut {K : PySem.W.Frag} {G : Hp} {ds : List Dat} {vs : List V} {lo hi : Option Int} (h : DenL K G ds vs) : DenL K G (cutD ds lo hi) (cutV vs lo hi) := by
  unfold cutD cutV
  rw [h.length]
  exact (h.drop _).take _
theorem l_lst {ds : List Dat} {lo hi : Option Int} (h : P (.lst (cutD ds lo hi)) M) : SQ X (.lst ds) lo hi M P := ⟨_, sl_list, fun G H v hH dx Q hP => by
  obtain ⟨p, vs, rfl, g, dl⟩ := dx.lst_inv
  refine ⟨p, vs, rfl, SqL.of (hH.sub _ _ g), fun r hr => ?_⟩
  obtain ⟨s2, h2⟩ := Stp.new (o := .lst (cutV vs lo hi)) hH hr
  exact hP _ _ _ _ _ h s2 h2 (den_lst upd_same ((denL_cut dl).up s2.gg))⟩
theorem l_scr {ns : List Int} {lo hi : Option Int} (h : P (.lst ((cutD ns lo hi).map Dat.int)) M) : SQ X (.scr ns) lo hi M P := ⟨_, sl_list, fun G H v hH dx Q hP => by
  obtain ⟨p, rfl, g⟩ := dx.scr_inv
  refine ⟨p, _, rfl, hH.sub.seq g, fun r hr => ?_⟩
  obtain ⟨s2, h2⟩ := Stp.new (o := .lst (cutV (ns.map V.int) lo hi)) hH hr
  refine hP _ _ _ _ _ h s2 h2 (den_lst upd_same ?_)
  have e : cutV (ns.map V.int) lo hi = (cutD ns lo hi).map V.int := by unfold cutV cutD; rw [List.length_map, List.map_take, List.map_drop]
  rw [e]; exact denL_ints⟩
theorem l_str {z : Str} {lo hi : Option Int} (hl : z.length ≤ sizeLine) (h : P (.str (cutS z lo hi)) M) : SQ X (.str z) lo hi M P := ⟨_, sl_str, fun G H v hH dx Q hP => ⟨z, dx.str_inv, hl, hP _ _ _ _ _ h Stp.refl hH den_str⟩⟩
/-! ### built-ins by values -/
theorem bc_of {f : Value} {r : List V → Hp → VK → Prop} {ds : List Dat} (hr : CallR X f r) (h : ∀ G H vs, Hst X.K G M H → DenL X.K G ds vs → ∀ Q, CE' X.K G M H P Q → r vs H Q) : BC X f ds M P := ⟨r, hr, h⟩
theorem one_inv {K : PySem.W.Frag} {G : Hp} {d : Dat} {vs : List V} (h : DenL K G [d] vs) : ∃ v, vs = [v] ∧ Den K G d v := by
  obtain ⟨v, r, rfl, d1, t⟩ := h.cons_inv
  rw [t.nil_inv]; exact ⟨v, rfl, d1⟩
theorem two_inv {K : PySem.W.Frag} {G : Hp} {d e : Dat} {vs : List V} (h : DenL K G [d, e] vs) : ∃ v u, vs = [v, u] ∧ Den K G d v ∧ Den K G e u := by
  obtain ⟨v, r, rfl, d1, t⟩ := h.cons_inv
  obtain ⟨u, rfl, d2⟩ := one_inv t
  exact ⟨v, u, rfl, d1, d2⟩
theorem c_len_lst {ds : List Dat} (h : P (.int ds.length) M) : BC X (.builtin "len") [.lst ds] M P := bc_of call_len_seq fun G H vs hH dv Q hP => by
  obtain ⟨v, rfl, d⟩ := one_inv dv
  obtain ⟨p, us, rfl, g, dl⟩ := d.lst_inv
  exact ⟨p, us, rfl, .inl (SqL.of (hH.sub _ _ g)), by rw [dl.length]; exact hP _ _ _ _ _ h Stp.refl hH den_int⟩
theorem c_len_tup {ds : List Dat} (h : P (.int ds.length) M) : BC X (.builtin "len") [.tup ds] M P := bc_of call_len_seq fun G H vs hH dv Q hP => by
  obtain ⟨v, rfl, d⟩ := one_inv dv
  obtain ⟨p, us, rfl, g, dl⟩ := d.tup_inv
  exact ⟨p, us, rfl, .inr (SqT.of (hH.sub _ _ g)), by rw [dl.length]; exact hP _ _ _ _ _ h Stp.refl hH den_int⟩
theorem c_len_str {z : Str} (hl : z.length ≤ sizeLine) (h : P (.int z.length) M) : BC X (.builtin "len") [.str z] M P := bc_of call_len_str fun G H vs hH dv Q hP => by
  obtain ⟨v, rfl, d⟩ := one_inv dv
  exact ⟨z, by rw [d.str_inv], hl, hP _ _ _ _ _ h Stp.refl hH den_int⟩
theorem c_int_i {i : Int} (h : P (.int i) M) : BC X (.type "int") [.int i] M P := bc_of call_int1 fun G H vs hH dv Q hP => by
  obtain ⟨v, rfl, d⟩ := one_inv dv
  exact .inl ⟨i, by rw [d.int_inv], hP _ _ _ _ _ h Stp.refl hH den_int⟩
theorem c_min {i j : Int} (hc : X.calm = true) (h : P (.int (if j < i then j else i)) M) : BC X (.builtin "min") [.int i, .int j] M P := bc_of (call_min2 hc) fun G H vs hH dv Q hP => by
  obtain ⟨v, u, rfl, d1, d2⟩ := two_inv dv
  exact ⟨i, j, by rw [d1.int_inv, d2.int_inv], hP _ _ _ _ _ h Stp.refl hH den_int⟩
theorem c_max {i j : Int} (hc : X.calm = true) (h : P (.int (if j > i then j else i)) M) : BC X (.builtin "max") [.int i, .int j] M P := bc_of (call_max2 hc) fun G H vs hH dv Q hP => by
  obtain ⟨v, u, rfl, d1, d2⟩ := two_inv dv
  exact ⟨i, j, by rw [d1.int_inv, d2.int_inv], hP _ _ _ _ _ h Stp.refl hH den_int⟩
theorem c_sum {ns : List Int} {ds : List Dat} (hc : X.calm = true) (e : ds = ns.map Dat.int) (h : P (.int ns.sum) M) : BC X (.builtin "sum") [.lst ds] M P := bc_of (cr_sum hc) fun G H vs hH dv Q hP => by
  subst e
  obtain ⟨v, rfl, d⟩ := one_inv dv
  obtain ⟨p, us, rfl, g, dl⟩ := d.lst_inv
  rw [dl.ints] at g
  exact ⟨p, ns, rfl, SqL.of (hH.sub _ _ g), hP _ _ _ _ _ h Stp.refl hH den_int⟩
theorem c_list_tup {ds : List Dat} (h : P (.lst ds) M) : BC X (.type "list") [.tup ds] M P := bc_of call_list_of fun G H vs hH dv Q hP => by
  obtain ⟨v, rfl, d⟩ := one_inv dv
  obtain ⟨p, us, rfl, g, dl⟩ := d.tup_inv
  refine ⟨p, us, rfl, .inr (SqT.of (hH.sub _ _ g)), fun r hr => ?_⟩
  obtain ⟨s2, h2⟩ := Stp.new (o := .lst us) hH hr
  exact hP _ _ _ _ _ h s2 h2 (den_lst upd_same (dl.up s2.gg))
theorem c_tuple_lst {ds : List Dat} (h : P (.tup ds) M) : BC X (.type "tuple") [.lst ds] M P := bc_of call_tuple_of fun G H vs hH dv Q hP => by
  obtain ⟨v, rfl, d⟩ := one_inv dv
  obtain ⟨p, us, rfl, g, dl⟩ := d.lst_inv
  refine ⟨p, us, rfl, .inl ⟨SqL.of (hH.sub _ _ g), fun r hr => ?_⟩⟩
  obtain ⟨s2, h2⟩ := Stp.new (o := .tup us) hH hr
  exact hP _ _ _ _ _ h s2 h2 (den_tup upd_same (dl.up s2.gg))
/-! isinstance -/
structure ICls (K : PySem.W.Frag) (C : Addr) : Prop where
  cl : Cls K C
  ha : PySem.W.findIn K (.ref C) "__class__" = some (some (.builtin "object.__class__"))
  hn : PySem.W.specialIn K (.builtin "object.__class__") "__get__" = some (some (.builtin "getset_descriptor.__get__"))
  tk : PySem.W.takesIn K (.builtin "object.__class__") = some true
  mr : PySem.W.mroIn K C (.type "object") = some true
/-- the type of a datum -/
inductive TyD (K : PySem.W.Frag) (M : Mem) : Dat → Value → Prop
  | non : TyD K M .non (.type "NoneType")
  | bl {k : Bool} : TyD K M (.bl k) (.type "bool")
  | int {i : Int} : TyD K M (.int i) (.type "int")
  | str {s : Str} : TyD K M (.str s) (.type "str")
  | lst {ds : List Dat} : TyD K M (.lst ds) (.type "list")
  | tup {ds : List Dat} : TyD K M (.tup ds) (.type "tuple")
  | dic0 : TyD K M .dic0 (.type "dict")
  | «at» {a : Addr} {d : Dat} {t : Value} (h : TyD K M d t) : TyD K M (.at a d) t
  | obj {C : Addr} {ns : List Str} {ds : List Dat} (h : ICls K C) : TyD K M (.obj C ns ds) (.ref C)
  | cellL {p : Addr} {ds : List Dat} (h : (p, MC.lst ds) ∈ M) : TyD K M (.raw (.ref p)) (.type "list")
  | cellI {p C dx : Addr} {fs : List (Str × Dat)} (h : (p, MC.ins C dx fs) ∈ M) (hc : ICls K C) : TyD K M (.raw (.ref p)) (.ref C)
theorem tyD_ok {K : PySem.W.Frag} {G H : Hp} {d : Dat} {t : Value} {v : V} (h : TyD K M d t) (hH : Hst K G M H) (dv : Den K G d v) : TyX K H v t := by
  induction h generalizing v with
  | «at» h ih => exact ih dv.at_inv.2
  | non => rw [dv.non_inv]; exact .base .non
  | bl => rw [dv.bl_inv]; exact .base (.bl _)
  | int => rw [dv.int_inv]; exact .base (.int _)
  | str => rw [dv.str_inv]; exact .base (.str _)
  | lst => obtain ⟨p, vs, rfl, g, _⟩ := dv.lst_inv; exact .base (.lst (hH.sub _ _ g))
  | tup => obtain ⟨p, vs, rfl, g, _⟩ := dv.tup_inv; exact .base (.tup (hH.sub _ _ g))
  | dic0 => obtain ⟨p, rfl, g⟩ := dv.dic0_inv; exact .base (.dK (hH.sub _ _ g))
  | obj h => obtain ⟨p, dx, vs, rfl, g, _⟩ := dv.obj_inv; exact .base (.ins (hH.sub _ _ g) h.cl h.ha h.hn h.tk h.mr)
  | cellL h => obtain ⟨vs, g, _⟩ := hH.mem _ h; rw [dv.raw_inv]; exact .base (.lst g)
  | cellI h hc => obtain ⟨vs, g, _⟩ := hH.mem _ h; rw [dv.raw_inv]; exact .base (.ins g hc.cl hc.ha hc.hn hc.tk hc.mr)
theorem c_isi {d : Dat} {cv : V} {t u : Value} {k : Bool} (hc : ClsV cv u) (ht : TyD X.K M d t) (hk : PySem.W.kitOne X.K t u = some k) (h : P (.bl k) M) : BC X (.builtin "isinstance") [d, .raw cv] M P := bc_of call_isi fun G H vs hH dv Q hP => by
  obtain ⟨v, w, rfl, d1, d2⟩ := two_inv dv
  rw [d2.raw_inv]
  exact ⟨v, cv, t, u, k, rfl, hc, tyD_ok ht hH d1, hk, hP _ _ _ _ _ h Stp.refl hH den_bl⟩

/-! ### data compared -/
mutual
def toPy : Dat → Option PyData
  | .non => some .none
  | .bl b => some (.bool b)
  | .int i => some (.int i)
  | .str s => some (.str s)
  | .lst xs => (toPyL xs).map PyData.list
  | .tup xs => (toPyL xs).map PyData.tuple
  | _ => none
def toPyL : List Dat → Option (List PyData)
  | [] => some []
  | d :: ds => (toPy d).bind fun x => (toPyL ds).map fun xs => x :: xs
end
mutual
theorem toPy_dp {K : PySem.W.Frag} {G H : Hp} (hs : Same G H) : ∀ (d : Dat) (v : V) (x : PyData), Den K G d v → toPy d = some x → Dp K H v x
  | .non, v, x, h, e => by rw [h.non_inv]; simp only [toPy, Option.some.injEq] at e; subst e; exact .non
  | .bl b, v, x, h, e => by rw [h.bl_inv]; simp only [toPy, Option.some.injEq] at e; subst e; exact .bl b
  | .int i, v, x, h, e => by rw [h.int_inv]; simp only [toPy, Option.some.injEq] at e; subst e; exact .int i
  | .str s, v, x, h, e => by rw [h.str_inv]; simp only [toPy, Option.some.injEq] at e; subst e; exact .str s
  | .lst ds, v, x, h, e => by
    obtain ⟨p, vs, rfl, g, dl⟩ := h.lst_inv
    simp only [toPy, Option.map_eq_some_iff] at e
    obtain ⟨xs, e1, rfl⟩ := e
    exact .lst (SqL.of (hs _ _ g)) (toPyL_dp hs ds vs xs dl e1)
  | .tup ds, v, x, h, e => by
    obtain ⟨p, vs, rfl, g, dl⟩ := h.tup_inv
    simp only [toPy, Option.map_eq_some_iff] at e
    obtain ⟨xs, e1, rfl⟩ := e
    exact .tup (SqT.of (hs _ _ g)) (toPyL_dp hs ds vs xs dl e1)
  | .raw _, _, _, _, e => by simp [toPy] at e
  | .dic0, _, _, _, e => by simp [toPy] at e
  | .scr _, _, _, _, e => by simp [toPy] at e
  | .obj _ _ _, _, _, _, e => by simp [toPy] at e
theorem toPyL_dp {K : PySem.W.Frag} {G H : Hp} (hs : Same G H) : ∀ (ds : List Dat) (vs : List V) (xs : List PyData), DenL K G ds vs → toPyL ds = some xs → DpAll K H vs xs
  | [], vs, xs, h, e => by rw [h.nil_inv]; simp only [toPyL, Option.some.injEq] at e; subst e; exact .nil
  | d :: ds, vs, xs, h, e => by
    obtain ⟨v, r, rfl, d1, t⟩ := h.cons_inv
    simp only [toPyL, Option.bind_eq_some_iff, Option.map_eq_some_iff] at e
    obtain ⟨x, e1, ys, e2, rfl⟩ := e
    exact .cons (toPy_dp hs d v x d1 e1) (toPyL_dp hs ds r ys t e2)
end
theorem o_eqD {x y : Dat} {d f : PyData} (hx : toPy x = some d) (hy : toPy y = some f) (sd : SeqAt.shaped d = true) (sf : SeqAt.shaped f = true) (hu : X.A.units + 64 < cLine) (h : P (.bl (PyData.eqv d f)) M) : OP X T (compareOp .Eq) x y M P :=
  op_of (op_eqD hu) fun G H v u hH dx dy Q hP => ⟨d, f, toPy_dp hH.sub x v d dx hx, toPy_dp hH.sub y u f dy hy, sd, sf, hP _ _ _ _ _ h Stp.refl hH den_bl⟩
theorem o_neD {x y : Dat} {d f : PyData} (hx : toPy x = some d) (hy : toPy y = some f) (sd : SeqAt.shaped d = true) (sf : SeqAt.shaped f = true) (hu : X.A.units + 64 < cLine) (h : P (.bl (!PyData.eqv d f)) M) : OP X T (compareOp .NotEq) x y M P :=
  op_of (op_neD hu) fun G H v u hH dx dy Q hP => ⟨d, f, toPy_dp hH.sub x v d dx hx, toPy_dp hH.sub y u f dy hy, sd, sf, hP _ _ _ _ _ h Stp.refl hH den_bl⟩
end
end Kh

set_option Elab.async false
set_option linter.all false
set_option maxRecDepth 100000
set_option maxHeartbeats 1000000
namespace Kh
open PySem PySem.Spec L2
section
variable {X : Cx} {T : Bool} {τ : TEnv} {M : Mem} {P : PK'} {E : XKx} {e a b c o value : Expr} {es : List Expr} {pos pos' apos tpos : Pos} {R : RK} {rest : List Stmt} {x : Str}
/-! ### cells written -/
theorem adr_split {A B : Mem} {c c' : Addr × MC} (h : adr1 c = adr1 c') : adr (A ++ c :: B) = adr (A ++ c' :: B) := by
  rw [adr_append, adr_append]
  show adr A ++ (adr1 c ++ adr B) = adr A ++ (adr1 c' ++ adr B)
  rw [h]
/-- the cell at p gets another content of the same addresses: H2 differs from H at p alone -/
theorem cell_put {K : PySem.W.Frag} {G H H2 : Hp} {A B : Mem} {p : Addr} {c c' : MC} (h : Hst K G (A ++ (p, c) :: B) H) (hc : adr1 (p, c) = adr1 (p, c')) (hp : p ∈ adr1 (p, c)) (hk : ∀ q, q ≠ p → H2 q = H q) (hn : MH K G H2 (p, c')) :
    Stp G (A ++ (p, c) :: B) H G (A ++ (p, c') :: B) H2 ∧ Hst K G (A ++ (p, c') :: B) H2 := by
  have ea : adr (A ++ (p, c) :: B) = adr (A ++ (p, c') :: B) := adr_split hc
  have hpm : p ∈ adr (A ++ (p, c) :: B) := by rw [adr_append]; exact List.mem_append_right _ (List.mem_append_left _ hp)
  have nd := h.nd
  rw [adr_append] at nd
  obtain ⟨_, nb, nab⟩ := List.nodup_append.mp nd
  have nb' : (adr1 (p, c) ++ adr B).Nodup := nb
  obtain ⟨_, _, ncb⟩ := List.nodup_append.mp nb'
  have other : ∀ d ∈ A ++ B, ∀ q ∈ adr1 d, q ≠ p := fun d hd q hq e => by
    rcases List.mem_append.mp hd with z | z
    · exact nab q (List.mem_flatMap.mpr ⟨d, z, hq⟩) p (List.mem_append_left _ hp) e
    · exact ncb p hp q (List.mem_flatMap.mpr ⟨d, z, hq⟩) e.symm
  refine ⟨⟨Same.refl _, fun q o n e => by rw [hk q (fun z => n (by rw [z]; exact hpm))]; exact e, fun _ _ _ g => g, fun q hq => .inl (by rw [ea]; exact hq)⟩, fun q o e => ?_, fun d hd => ?_, fun q hq => h.out q (by rw [ea]; exact hq), by rw [← ea]; exact h.nd⟩
  · have : q ≠ p := fun z => by rw [z, h.out p hpm] at e; cases e
    rw [hk q this]; exact h.sub q o e
  · rcases List.mem_append.mp hd with z | z
    · exact (h.mem d (List.mem_append_left _ z)).up (Same.refl _) fun q hq o e => by rw [hk q (other d (List.mem_append_left _ z) q hq)]; exact e
    · rcases List.mem_cons.mp z with rfl | z
      · exact hn
      · exact (h.mem d (List.mem_append_right _ (List.mem_cons_of_mem _ z))).up (Same.refl _) fun q hq o e => by rw [hk q (other d (List.mem_append_right _ z) q hq)]; exact e
/-- M with the cell of p put anew -/
def putC (p : Addr) (c' : MC) : Mem → Mem
  | [] => []
  | (q, c) :: M => if q = p then (p, c') :: M else (q, c) :: putC p c' M
theorem putC_split {p : Addr} {c c' : MC} : ∀ {M : Mem}, (p, c) ∈ M → ∃ A B, M = A ++ (p, (M.lookup p).getD c) :: B ∧ putC p c' M = A ++ (p, c') :: B
  | (q, d) :: M, h => by
    by_cases e : q = p
    · subst e
      exact ⟨[], M, by simp [List.lookup], by simp [putC]⟩
    · have hm : (p, c) ∈ M := by
        rcases List.mem_cons.mp h with z | z
        · cases z; exact absurd rfl e
        · exact z
      obtain ⟨A, B, h1, h2⟩ := putC_split (c' := c') hm
      have el : (List.lookup p ((q, d) :: M)) = List.lookup p M := by
        rw [List.lookup_cons, show (p == q) = false from by simpa using fun z => e z.symm]
      refine ⟨(q, d) :: A, B, ?_, ?_⟩
      · rw [el, List.cons_append, ← h1]
      · show (if q = p then _ else (q, d) :: putC p c' M) = _
        rw [if_neg e, h2]; rfl
theorem nodup_cell {K : PySem.W.Frag} {G H : Hp} {p : Addr} {c : MC} (h : Hst K G M H) (hm : (p, c) ∈ M) : M.lookup p = some c := by
  have nd := h.nd
  clear h
  induction M with
  | nil => cases hm
  | cons q M ih =>
    obtain ⟨q, d⟩ := q
    have hq : q ∈ adr1 (q, d) := by cases d <;> simp [adr1]
    have nd' : (adr1 (q, d) ++ adr M).Nodup := nd
    obtain ⟨_, n2, n3⟩ := List.nodup_append.mp nd'
    rw [List.lookup_cons]
    rcases List.mem_cons.mp hm with z | z
    · cases z; simp
    · have hp : p ∈ adr M := List.mem_flatMap.mpr ⟨_, z, by cases c <;> simp [adr1]⟩
      have : (p == q) = false := by
        cases e : p == q with
        | false => rfl
        | true =>
          have e' : p = q := by simpa using e
          exact absurd e'.symm (fun z => n3 q hq p hp z)
      rw [this]
      exact ih z n2
theorem put_ok {K : PySem.W.Frag} {G H H2 : Hp} {p : Addr} {c c' : MC} (h : Hst K G M H) (hm : (p, c) ∈ M) (hc : adr1 (p, c) = adr1 (p, c')) (hk : ∀ q, q ≠ p → H2 q = H q) (hn : MH K G H2 (p, c')) :
    Stp G M H G (putC p c' M) H2 ∧ Hst K G (putC p c' M) H2 := by
  obtain ⟨A, B, h1, h2⟩ := putC_split (c' := c') hm
  rw [nodup_cell h hm] at h1
  have h1 : M = A ++ (p, c) :: B := h1
  rw [h2]
  rw [h1] at h ⊢
  exact cell_put h hc (by cases c <;> simp [adr1]) hk hn

/-! ### methods of built-in types -/
inductive TyB (K : PySem.W.Frag) (M : Mem) : Dat → String → Prop
  | str {s : Str} : TyB K M (.str s) "str"
  | int {i : Int} : TyB K M (.int i) "int"
  | lst {ds : List Dat} : TyB K M (.lst ds) "list"
  | scr {ns : List Int} : TyB K M (.scr ns) "list"
  | cell {p : Addr} {ds : List Dat} (h : (p, MC.lst ds) ∈ M) : TyB K M (.raw (.ref p)) "list"
  | dcell {p : Addr} {kvs : List (Key × Dat)} (h : (p, MC.dic kvs) ∈ M) : TyB K M (.raw (.ref p)) "dict"
theorem tyB_ok {K : PySem.W.Frag} {G H : Hp} {d : Dat} {t : String} {v : V} (h : TyB K M d t) (hH : Hst K G M H) (dv : Den K G d v) : tyV K t v H := by
  cases h with
  | str => rw [dv.str_inv]; rfl
  | int => rw [dv.int_inv]; rfl
  | lst => obtain ⟨p, vs, rfl, g, _⟩ := dv.lst_inv; exact .inl ⟨rfl, vs, SqL.of (hH.sub _ _ g)⟩
  | scr => obtain ⟨p, rfl, g⟩ := dv.scr_inv; exact .inl ⟨rfl, _, hH.sub.seq g⟩
  | cell h => obtain ⟨vs, g, _⟩ := hH.mem _ h; rw [dv.raw_inv]; exact .inl ⟨rfl, vs, SqL.of g⟩
  | dcell h => obtain ⟨vs, g, _⟩ := hH.mem _ h; rw [dv.raw_inv]; exact .inr (.inr (.inl ⟨rfl, .inl ⟨vs, g⟩⟩))
/-- a built-in method of d, called with ds -/
def BMr (X : Cx) (id : String) (d : Dat) (ds : List Dat) (M : Mem) (P : PK') : Prop :=
  ∃ r, MtR X id r ∧ ∀ G H v vs, Hst X.K G M H → Den X.K G d v → DenL X.K G ds vs → ∀ Q, CE' X.K G M H P Q → r v vs H Q
theorem ex_bm {name : Str} {t id : String} (pa : PlainAttrs t) (slot : Slot t name id) (hty : typeOf (.builtin id) = pure (.type "method_descriptor"))
    (h : EX X T o τ M (fun d M1 => TyB X.K M1 d t ∧ EA X T (e :: es) τ M1 (fun ds M2 => BMr X id d ds M2 P) E) E)
    (hbase : attributeBase o name X.env (eval o X.env) = eval o X.env := by rfl)
    (hfew : ((backTo tpos (starEach (e :: es) X.env)).all (fun x => !x.1) && (backToKw tpos (keywordEach [] X.env)).all (fun x => x.1.isSome) && decide ((e :: es).length + ([] : List Keyword).length + (if ([] : List Keyword).isEmpty then 0 else 1) < 30)) = true := by rfl)
    (hline : (apos.endLine == tpos.line) = true := by rfl) (hs : starEach (e :: es) X.env = (false, eval e X.env) :: starEach es X.env := by rfl) (hplain : (backTo tpos (starEach es X.env)).any (·.1) = false := by rfl) :
    EX X T (.Call (.Attribute o name apos) (e :: es) [] tpos) τ M P E := by
  refine .mk ?_; intro W tk σ G H hE hH Q hP hX pins s k I
  have hA := h.run W tk σ G H hE hH (fun v H1 => tyV X.K t v H1 ∧ tWA X T (e :: es) σ H1 fun vs H2 => ∃ r, MtR X id r ∧ r v vs H2 Q) (fun d M1 v G1 H1 ⟨ht, hb⟩ s1 h1 dv =>
    ⟨tyB_ok ht h1 dv, hb.run W tk σ G1 H1 (hE.up s1.gg) h1 _ (fun ds M2 vs G2 H2 ⟨r, hr, hq⟩ s2 h2 dvs => ⟨r, hr, hq G2 H2 v vs h2 (dv.up s2.gg) dvs Q (hP.step (s1.trans s2))⟩) (hX.step s1)⟩) hX
  refine wpAny_Call_method_late hbase hfew hline rfl (thnT k (hA pins s k I) fun v s1 k1 ⟨x, H1, I1, r1, ty, q1⟩ => ?_)
  obtain ⟨h1, h2⟩ := tyV_is I1 r1 ty
  refine ⟨t, id, pa, slot, hty, h1, h2, ?_⟩
  have hA := q1 tpos pins s1 k1 I1
  rw [hs] at hA ⊢
  refine Calls.callWith_builtin (by show (false || (backTo tpos (starEach es X.env)).any (·.1)) = false; rw [hplain] <;> rfl) (Calls.evalArgs_plain ?_)
  exact thn hA fun us s2 ⟨vs, H2, I2, r2, r, hr, q2⟩ => hr pins s2 σ H2 x vs v us Q I2 r1 r2 q2
theorem ex_append (h : EX X T o τ M (fun d M1 => TyB X.K M1 d "list" ∧ EA X T (e :: es) τ M1 (fun ds M2 => BMr X "list.append" d ds M2 P) E) E)
    (hbase : attributeBase o "append" X.env (eval o X.env) = eval o X.env := by rfl)
    (hfew : ((backTo tpos (starEach (e :: es) X.env)).all (fun x => !x.1) && (backToKw tpos (keywordEach [] X.env)).all (fun x => x.1.isSome) && decide ((e :: es).length + ([] : List Keyword).length + (if ([] : List Keyword).isEmpty then 0 else 1) < 30)) = true := by rfl)
    (hline : (apos.endLine == tpos.line) = true := by rfl) (hs : starEach (e :: es) X.env = (false, eval e X.env) :: starEach es X.env := by rfl) (hplain : (backTo tpos (starEach es X.env)).any (·.1) = false := by rfl) :
    EX X T (.Call (.Attribute o "append" apos) (e :: es) [] tpos) τ M P E := ex_bm PySem.F.plainAttrs_list PySem.F.slot_list_append PySem.F.type_list_append h hbase hfew hline hs hplain
/-! ### o[i] = v -/
/-! ### a new list that may change -/
theorem ex_lstC (h : EA X T es τ M (fun ds M1 => ds.length ≤ sizeLine ∧ ∀ q, q ∉ adr M1 → P (.raw (.ref q)) ((q, .lst ds) :: M1)) E) : EX X T (.List es pos) τ M P E := by
  refine .mk ?_; intro W tk σ G H hE hH Q hP hX
  refine v_lst ?_
  refine h.run W tk σ G H hE hH _ ?_ hX
  intro ds M1 vs G1 H1 ⟨hl, hp⟩ s1 h1 dvs
  refine ⟨by rw [dvs.length]; exact hl, fun p hp' => ?_⟩
  have nM : p ∉ adr M1 := fun z => h1.there p z hp'
  have ha : adr ((p, MC.lst ds) :: M1) = p :: adr M1 := rfl
  have kp : ∀ b o, H1 b = some o → (upd H1 p (.lst vs)) b = some o := fun b o e => by rw [upd_ne (ne_of_none e hp')]; exact e
  refine hP _ _ _ _ _ (hp p nM) (s1.trans ⟨Same.refl _, fun b o _ e => kp b o e, fun _ _ _ g => g, fun b hb => ?_⟩) ⟨fun b o e => kp b o (h1.sub b o e), fun c hc => ?_, fun b hb => ?_, ?_⟩ den_raw
  · rw [ha] at hb
    rcases List.mem_cons.mp hb with rfl | hb
    · exact .inr hp'
    · exact .inl hb
  · rcases List.mem_cons.mp hc with rfl | hc
    · exact ⟨vs, upd_same, dvs⟩
    · exact (h1.mem c hc).up (Same.refl _) fun b hb o e => kp b o e
  · rw [ha] at hb
    rcases List.mem_cons.mp hb with rfl | hb
    · exact h1.sub.free hp'
    · exact h1.out b hb
  · rw [ha]
    exact List.nodup_cons.mpr ⟨nM, h1.nd⟩
end
end Kh

set_option Elab.async false
set_option linter.all false
set_option maxRecDepth 100000
set_option maxHeartbeats 4000000
namespace Kh
open PySem PySem.Spec L2
open PySem.W PySem.Calls PyProof.Rows PySem.HandSPX

/-! ### an own exception class whose __init__ says super().__init__(v); self.f = v -/
abbrev supBody (ns f : Str) (p0 p1 p2 p3 p4 p5 p6 p7 p8 p9 : Pos) : List Stmt :=
  [.Expr (.Call (.Attribute (.Call (.Name "super" p0) [] [] p1) "__init__" p2) [.Name ns p3] [] p4) p5, .Assign [.Attribute (.Name "self" p6) f p7] (.Name ns p8) p9]
structure SupX (P : Program) (K : Frag) (C fI : Addr) (ns f : Str) : Prop where
  T : OexC K C
  iC : findIn K (.ref C) "__init__" = some (some (.ref fI))
  tI : typeIn K (.ref fI) = some (.type "function")
  nf : findIn K (.ref C) f = some none
  al : ks_superIn K C C "__init__" = some (some (.builtin "ValueError.__init__"))
  sV : subIn K (.ref C) (.type "ValueError") = some true
  sC : mroIn K C (.ref C) = some true
  op : nsIn K cStatics "thirdparty.any" = some none
  tp : (P.main.scope.names.lookup ("super" : Str)).isSome = false
  fn : ∃ (oc : Value) (od : Option Addr) (osl : Array (Option Value)) (name qual : Str) (params : Arguments) (scope : Scope) (dV kV doc pm : Value) (an : Option Addr) (cda : Addr) (ct : Value) (cc : Addr) (p0 p1 p2 p3 p4 p5 p6 p7 p8 p9 : Pos) (ar : Arg)
      (ccl : Value) (cdd : Option Addr) (vs : Array Value) (ccs : Array (Option Value)) (file : Str) (tf : Tok) (cl : Value) (cld : Option Addr) (csl : Array (Option Value)),
    K.lookup fI = some ⟨oc, od, .func (ksFn name qual params (supBody ns f p0 p1 p2 p3 p4 p5 p6 p7 p8 p9) scope dV kV doc pm an (.ref cda) ct cc), osl⟩ ∧ codeIn K (.ref cda) qual = true ∧
    (params.posonlyargs ++ params.args).head? = some ar ∧ ar.arg = "self" ∧ scope.kind = .function ∧ scope.isGenerator = false ∧ scope.isCoroutine = false ∧ (∀ x ∈ scope.names, x.2 ≠ .cell) ∧
    scope.names.lookup ("super" : Str) = some .globalImplicit ∧ scope.names.lookup ("__class__" : Str) = some .free ∧ scope.names.lookup ("self" : Str) = some .local ∧ scope.names.lookup ns = some .local ∧
    K.lookup cda = some ⟨ccl, cdd, .fields vs, ccs⟩ ∧ vs[2]? = some (.str file tf) ∧ ((P.main.file : Str) == file) = true ∧ K.lookup cc = some ⟨cl, cld, .cell (some (.ref C)), csl⟩ ∧
    Binds K (ksFn name qual params (supBody ns f p0 p1 p2 p3 p4 p5 p6 p7 p8 p9) scope dV kV doc pm an (.ref cda) ct cc) ["self", ns] [] ∧
    (∀ env : Env, ∃ pl : Sem Bool, eval (.Call (.Attribute (.Call (.Name "super" p0) [] [] p1) "__init__" p2) [.Name ns p3] [] p4) env = (do
      let ov ← attributeBase (.Call (.Name "super" p0) [] [] p1) "__init__" env (eval (.Call (.Name "super" p0) [] [] p1) env)
      standAt p2.atName
      let (f, first) ← holding [ov] (getMethod ov "__init__" pl)
      callWith p4 f first (backTo p4 (starEach [.Name ns p3] env)) []))
  ne : (ns == ("self" : Str)) = false
  nd : (ns == ("__debug__" : Str)) = false

section
variable {prog : Program} {w : World} {A : Around} {E : Value → Shared → Prop} {h : Heap} {g : Array GenState} {d : Drawn} {t : Nat} {os : OsState}
variable {nm q : Str} {C N : Addr} {bs bm : List Value} {hdct : Bool} {sn : List Str} {sub : List Value} {ab : Bool} {col : Option Bool} {dd : Option Addr} {k0 k1 k2 k3 k5 : Option Value}
theorem call_mw {u e t0 : Addr} {rest : List Value} {Q : Value → Shared → Prop}
    (hC : h.get? C = some (excClassObj nm q C N bs bm hdct sn sub ab col dd k0 k1 k2 k3 k5 "ValueError.__new__")) (he : h.get? e = some (HandSPX.excO C t0)) (hu : h.get? u = some (kxs_mw "ValueError.__init__" e)) (hrest : rest.length ≤ sizeLine)
    (hq : ∀ h' t1, (∀ b o, b ≠ e → h.get? b = some o → h'.get? b = some o) → h'.get? e = some (HandSPX.excO C t1) → Q .none ⟨h', g, d, t, os⟩) :
    wpAny (model prog w) A (call (.ref u) rest) Q E ⟨h, g, d, t, os⟩ := by
  refine wpAny_call (codeAny_of_tree ?_)
  show wpAny _ A.in1 (callAny (.ref u) ⟨rest, []⟩) _ _ _
  simp only [callAny]
  refine wpAny_bind (wpAny_load hu ?_)
  simp only [kxs_mw, show (Value.type "method-wrapper" == Value.type "method" || Value.type "method-wrapper" == Value.type "builtin_function_or_method" || Value.type "method-wrapper" == Value.type "method-wrapper") = true by decide, if_true]
  refine W.KFB.if_so (by decide) ?_
  refine wpAny_bind (check_bound_init F.excBase_ValueError.toExcCallFacts hC he rfl ?_)
  refine wpAny_bind (wpAny_pure (wpAny_pure ?_))
  refine ⟨Code.quiet_builtin _ (by decide +kernel), codeAny_builtin F.excBase_ValueError.initEntry ?_⟩
  rw [Around.under_plainId F.excBase_ValueError.init.plain _]
  wp_walk
  refine hq _ h.objs.size (fun b o hb ho => ?_) ?_
  · rw [Heap.get?_update_other _ _ (Ne.symm hb)]
    exact Heap.get?_push_of_some _ ho
  · rw [Heap.get?_update_self _ (Heap.get?_push_of_some _ he) rfl]
    rfl
end
/-- what __init__ leaves of a fresh exception at x -/
structure InitEnd (h h' : Heap) (x C dx t1 : Addr) (f : Str) (v : Value) : Prop where
  keep : ∀ b o, b ≠ x → h.get? b = some o → h'.get? b = some o
  obj : h'.get? x = some { cls := .ref C, dict := some dx, data := .fields #[.ref t1, .none, .none, .none, .bool false, .none] }
  dbig : h.objs.size ≤ dx
  dne : dx ≠ x
  ns : h'.Ns1 dx (fun y => if y = f then some v else none)
structure OwnMade (h h' : Heap) (e C d : Addr) (f : Str) (v : Value) : Prop where
  keep : ∀ b o, h.get? b = some o → h'.get? b = some o
  new : h.objs.size ≤ e
  obj : ∃ oe vs, h'.get? e = some oe ∧ oe.cls = .ref C ∧ oe.dict = some d ∧ oe.data = .fields vs ∧ vs[1]? = some .none
  dbig : h.objs.size ≤ d
  dne : d ≠ e
  ns : h'.Ns1 d (fun y => if y = f then some v else none)
section
variable {prog : Program} {w : World} {A : Around} {E : Value → Shared → Prop} {R : Result → Shared → Prop} {s : Shared} {K : Frag} {mg mb : Str → Option Value} {C fI : Addr} {ns f : Str}
theorem sup_init (T : SupX prog K C fI ns f) {x t0 : Addr} {v : Value} (X : K.In s.heap) (hlim : s.heap.NoLimit) (hx : s.heap.get? x = some (excO C t0)) (hnx : K.lookup x = none) (hroom : A.depth < recursionLimit)
    (hg : s.heap.Ns mainGlobals mg) (hm : mg "super" = none) (hb : s.heap.Ns builtinsNs mb) (hbs : mb "super" = bootBuiltins "super")
    (hq : ∀ h' tk dx t1, InitEnd s.heap h' x C dx t1 f v → R (.ok (.ret .none)) { s with heap := h', toks := tk }) :
    codeAny (model prog w) A (.call (.ref fI) ⟨[.ref x, v], []⟩) R s := by
  obtain ⟨oc, od, osl, name, qual, params, scope, dV, kV, doc, pm, an, cda, ct, cc, p0, p1, p2, p3, p4, p5, p6, p7, p8, p9, ar, ccl, cdd, vs, ccs, file, tf, cl, cld, csl, ho, hcd, hp, har, hk, hgen, hco, hcell, ks, kc, kse, kn, hcode, hvs, hfile, hcc, hbn, hev⟩ := T.fn
  obtain ⟨nm, q, N, bs, bm, sn, sub, ab, col, dd, k0, k1, k2, k3, k5, hC, hbm⟩ := T.T.cls
  have hcl : clsIn K C = some { name := nm, bases := bs, mro := .ref C :: bm, ns := N, qualname := q, hasDict := true, slotNames := sn, subclasses := sub, abstract := ab, collection := col, hasDel := false } := by unfold clsIn; rw [hC] <;> rfl
  refine ks_codeAny_call_defAt (fd := ksFn name qual params (supBody ns f p0 p1 p2 p3 p4 p5 p6 p7 p8 p9) scope dV kV doc pm an (.ref cda) ct cc) (binds := [("self", .ref x), (ns, v)]) hroom (X _ _ ho) rfl hlim (codeRec_of X hcd) rfl
    (hbn s [.ref x, v] X rfl) hcell (fun y hy => ?_) (fun h₁ hns k => ?_) hco hgen hk
  · rcases List.mem_cons.mp hy with rfl | hy
    · exact kse
    · rcases List.mem_cons.mp hy with rfl | hy
      · exact kn
      · cases hy
  have X₁ : K.In h₁ := X.keeps k
  have hx₁ := k _ _ hx
  have e1 : List.lookup ns ([(("self" : Str), Value.ref x), (ns, v)].reverse) = some v := by simp [List.lookup]
  have e2 : List.lookup ("self" : Str) ([(("self" : Str), Value.ref x), (ns, v)].reverse) = some (.ref x) := by
    have n2 : (("self" : Str) == ns) = false := by
      have := T.ne
      cases z : (("self" : Str) == ns) with
      | false => rfl
      | true =>
        have z2 : ("self" : Str) = ns := by simpa using z
        rw [← z2] at this
        simp at this
    show List.lookup ("self" : Str) [(ns, v), (("self" : Str), Value.ref x)] = _
    rw [List.lookup_cons, n2]
    simp [List.lookup]
  obtain ⟨hh, gs, dr, tk, os⟩ := s
  have I₁ : InstAt h₁ x (excO C t0) C none := ⟨hx₁, rfl, rfl, trivial⟩
  have hCd : clsIn K C = some _ := hcl
  have hxC : x ≠ C := fun z => by rw [z, hC] at hnx; cases hnx
  obtain ⟨pl, hev⟩ := hev (ksEnv qual scope hh.objs.size fI (.ref cda) cc)
  refine ks_wpAt_execs_cons (ks_wpAt_Expr_any (ks_wpAt_MethodCall ?_ hev) (by show (scope.kind == .module && _) = false; rw [hk]; rfl) (by rfl))
  refine ks_wpAt_super_base (env := ksEnv qual scope hh.objs.size fI (.ref cda) cc) ks kc (by decide) rfl (X₁ _ _ ho) rfl hp rfl (X₁ _ _ hcode) rfl hvs hfile T.tp ?_
  refine ks_loadName_global hk ks (loadGlobal_builtin (env := ksEnv qual scope hh.objs.size fI (.ref cda) cc) (hg.keeps k) hm (hb.keeps k) (hbs.trans Boot.«super») ⟨rfl, ?_⟩)
  refine wpAny_loadName_free hk kc rfl ⟨_, X₁ _ _ hcc, rfl⟩ ?_
  rw [har]
  refine wpAny_loadName_local hk kse hns e2 ?_
  refine ks_wpAny_isType_cls (X₁ _ _ hC) rfl ⟨rfl, ?_⟩
  refine ks_wpAny_call_super (X₁ _ _ hC) rfl hx₁ rfl (fun c e => by cases e) (looks_mroIn X₁ T.sC) (fun h₂ hso k₂ => ?_)
  have X₂ : K.In h₂ := X₁.keeps k₂
  have hx₂ := k₂ _ _ hx₁
  have I₂ : InstAt h₂ x (excO C t0) C none := ⟨hx₂, rfl, rfl, trivial⟩
  have al := T.al
  unfold ks_superIn at al
  rw [hcl] at al
  refine kxs_getMethod kxs_ValueError hso (looks_opaque X₂ T.op) (l₀ := .ref C :: bm) ?_ rfl X₂ al (I₂.type.andThen (looks_subIn X₂ T.sV)) hxC (by decide) ?_
  · exact fun A Q E s k q => wpAny_bind ((looks_clsIn X₂ hcl) A _ E s k (wpAny_pure q))
  refine kxs_callWith (i := "ValueError.__init__") (x := x) (by rfl) (Calls.evalArgs_plain (Calls.spliced_cons ?_))
  have k₃ : ∀ b o, h₂.get? b = some o → (h₂.push (kxs_mw "ValueError.__init__" x)).get? b = some o := fun b o e => Heap.get?_push_of_some _ e
  have hns₃ := (hns.keeps k₂).keeps k₃
  refine wpAny_Name (wpAny_loadName_local hk kn hns₃ e1 (Calls.spliced_nil ⟨Heap.get?_push_at rfl rfl, ?_⟩)) T.nd
  refine call_mw ((X₂.keeps k₃) _ _ hC) (k₃ _ _ hx₂) (Heap.get?_push_at rfl rfl) (by show 1 ≤ sizeLine; decide) (fun h₄ t1 k₄ hx₄ => ?_)
  have kk : ∀ b o, b ≠ x → h₁.get? b = some o → h₄.get? b = some o := fun b o nb e => k₄ b o nb (k₃ _ _ (k₂ _ _ e))
  have neL : hh.objs.size ≠ x := fun z => absurd (Heap.lt_size hx) (by rw [z]; exact Nat.lt_irrefl _)
  have hns₄ : h₄.Ns hh.objs.size (fun y => List.lookup y ([(("self" : Str), Value.ref x), (ns, v)].reverse)) := by
    obtain ⟨o, es, ep, a1, r⟩ := hns
    exact ⟨o, es, ep, kk _ _ neL a1, r⟩
  have X₄ : K.In h₄ := fun b o e => kk b o (fun z => by rw [z, hnx] at e; cases e) (X₁ _ _ e)
  refine ks_wpAt_execs_cons (ks_wpAt_Assign_Attr ?_ (by rfl))
  refine wpAt_of_wpAny (wpAny_Name (wpAny_loadName_local hk kn hns₄ e1 ?_) T.nd)
  refine wpAny_Name (wpAny_loadName_local hk kse hns₄ e2 ?_) (by decide)
  refine set_plain X₄ (ox := excO C t1) (od := none) ⟨hx₄, rfl, rfl, trivial⟩ T.T.sa ?_
  refine exc_osa X₄ hx₄ hcl (show refsVE (.ref C :: bm) = true from hbm) rfl T.nf (fun h₅ tk₅ dx k₅ dn dne hx₅ hn₅ => ?_)
  have z : hh.objs.size ≤ h₄.objs.size := by
    obtain ⟨o, es, ep, a1, r⟩ := hns₄
    exact Nat.le_of_lt (Heap.lt_size a1)
  refine wpAt_of_wpAny (wpAny_execs_nil (hq h₅ tk₅ dx t1 ⟨fun b o nb e => k₅ b o nb (kk b o nb (k b o e)), hx₅, Nat.le_trans z dn, dne, hn₅⟩))
theorem sup_made (T : SupX prog K C fI ns f) {v : Value} (X : K.In s.heap) (hlim : s.heap.NoLimit) (hroom : A.depth + 1 < recursionLimit)
    (hg : s.heap.Ns mainGlobals mg) (hm : mg "super" = none) (hb : s.heap.Ns builtinsNs mb) (hbs : mb "super" = bootBuiltins "super")
    (hq : ∀ h' tk e d, OwnMade s.heap h' e C d f v → R (.ok (.ret (.ref e))) { s with heap := h', toks := tk }) :
    codeAny (model prog w) A (.call (.ref C) ⟨[v], []⟩) R s := by
  obtain ⟨nm, q, N, bs, bm, sn, sub, ab, col, dd, k0, k1, k2, k3, k5, hC, hbm⟩ := T.T.cls
  obtain ⟨hp, gs, dr, tk, os⟩ := s
  have k : ∀ b o, hp.get? b = some o → ((hp.push (kdv_tup [v])).push (excO C hp.objs.size)).get? b = some o := fun b o e => Heap.get?_push_of_some _ (Heap.get?_push_of_some _ e)
  have hget : ((hp.push (kdv_tup [v])).push (excO C hp.objs.size)).get? (hp.objs.size + 1) = some (excO C hp.objs.size) := by heap_get
  have hnx : K.lookup (hp.objs.size + 1) = none := by
    cases e : K.lookup (hp.objs.size + 1) with
    | none => rfl
    | some o =>
      have z : hp.get? (hp.objs.size + 1) = some o := X _ _ e
      exact absurd (Nat.lt_of_succ_lt (Heap.lt_size z)) (Nat.lt_irrefl _)
  refine call_own F.excBase_ValueError (fun X => refsVE_contains X bm hbm) (X _ _ hC) (looks_findIn X T.iC) (fun self => bind_fn X self T.tI) (by show 1 ≤ sizeLine; decide) ?_
  refine sup_init (s := ⟨(hp.push (kdv_tup [v])).push (excO C hp.objs.size), gs, dr, tk, os⟩) T (X.keeps k) (hlim.keeps k) hget hnx ?_ (hg.keeps k) hm (hb.keeps k) hbs fun h' tk' dx t1 ⟨k', hx, dn, dne, hns⟩ => ?_
  · show A.depth + 1 < recursionLimit
    exact hroom
  · have old : ∀ b o, hp.get? b = some o → h'.get? b = some o := fun b o e => k' b o (Nat.ne_of_lt (Nat.lt_succ_of_lt (Heap.lt_size e))) (k b o e)
    have z : hp.objs.size + 1 + 1 ≤ dx := by
      first
        | (simpa only [Heap.size_push] using dn)
        | exact dn
        | (have q := dn; rw [Heap.size_push, Heap.size_push] at q; exact q)
    exact ⟨rfl, hq h' tk' (hp.objs.size + 1) dx ⟨old, Nat.le_succ _, ⟨_, _, hx, rfl, rfl, rfl, rfl⟩, Nat.le_trans (Nat.le_trans (Nat.le_succ _) (Nat.le_succ _)) z, dne, hns⟩⟩
end
end Kh
namespace Kh
open PySem PySem.Spec L2
theorem relO_one {f : Str} {v : V} {v' : Value} (r : RelV v v') (g : Str) : RelO (List.lookup g [(f, v)]) (if g = f then some v' else none) := by
  by_cases hw : g = f
  · subst hw
    rw [if_pos rfl]
    have q : List.lookup g [(g, v)] = some v := by simp [List.lookup]
    rw [q]
    exact r
  · rw [if_neg hw]
    have qw : (g == f) = false := by simpa using hw
    have q2 : List.lookup g [(f, v)] = none := by simp [List.lookup, qw]
    rw [q2]
    trivial
section
variable {X : Cx} {C fI : Addr} {ns f : Str}
/-- C(e) -/
def tMkS (C : Addr) (f : Str) (ta : TA) : L2.St → Hp → XK → Prop := fun σ H Q => ta σ H fun vs H1 => ∃ v, vs = [v] ∧ ∀ d, H1 d = none → Q (.ref C) (some d) (upd H1 d (.xd [(f, v)]))
theorem pmk_sup {a : Expr} {ta : TA} {x : Str} {p pos : Pos} {k : Nat} (T : SupX X.prog X.K C fI ns f) (gC : X.mg x = some (.ref C)) (hms : X.mg "super" = none) (hr : Room k X.A) (ha : PA X [a] ta) (hg : Gl X x) (hdb : (x == ("__debug__" : Str)) = false := by decide)
    (he : starEach (a :: []) X.env = (false, eval a X.env) :: starEach [] X.env := by rfl) (hpl : (backTo pos (starEach [] X.env)).any (·.1) = false := by rfl) :
    PMk X (.Call (.Name x p) [a] [] pos) (tMkS C f ta) := by
  intro pins s σ H Q I h
  refine wpAny_Call_Name_kw (ld_glob I hg gC ?_ hdb)
  refine PySem.W.callWith_K (h₀ := X.base) I.ok.mod.kin T.T.kC (thn (ha.run pos pins s σ H _ I h) fun us s1 hh => ?_) he hpl
  obtain ⟨vs, H1, I1, r1, v, ev, q1⟩ := hh
  subst ev
  refine ⟨I1.kIn, ?_⟩
  cases r1 with
  | cons rv rn =>
    rename_i v' us'
    cases rn
    show wpAny _ _ (call (.ref C) [v']) _ _ _
    have hlim := I1.nolimit
    have hgl := I1.mod.glob.keeps I1.bk
    obtain ⟨mb, hb1, hb2⟩ := I1.mod.blt
    have hbl := hb1.keeps I1.bk
    obtain ⟨hp, g, dr, tk, os⟩ := s1
    refine wpAny_call (sup_made T I1.kIn hlim (by have := hr.dp; omega) hgl hms hbl (hb2 _ (by decide)) fun h' tk' e d M => ?_)
    show MkP X pins σ Q (.ref e) ⟨h', g, dr, tk', os⟩
    obtain ⟨oe, fv, hoe, hc, hd, hdat, h1⟩ := M.obj
    have hns := M.ns
    obtain ⟨G', g1, g2⟩ := restrict h' fun b => decide (b ≠ e)
    have gk : ∀ b, b ≠ e → G'.get? b = h'.get? b := fun b hb => g1 b (decide_eq_true hb)
    have ge : G'.get? e = none := g2 e (by simp)
    have old : ∀ b o, hp.get? b = some o → G'.get? b = some o := fun b o q => (gk b (Nat.ne_of_lt (Nat.lt_of_lt_of_le (Heap.lt_size q) M.new))).trans (M.keep b o q)
    have ob : ObjOk X.prog X.w (upd H1 d (.xd [(f, v)])) G' d (.xd [(f, v)]) :=
      ⟨_, hns.at (fun o q => (gk d M.dne).trans q), fun g => relO_one rv g⟩
    have J : Inv X pins σ (upd H1 d (.xd [(f, v)])) ⟨G', g, dr, tk', os⟩ := I1.laid (t' := tk') old M.dbig ob
    refine ⟨e, oe, fv, ⟨G', g, dr, tk', os⟩, _, .ref C, some d, rfl, J, fun b o q => ?_, ge, hoe, ⟨hc, hd⟩, hdat, h1, ?_, rfl, I1.bare, raises_own T.T.exC T.T.tyC, q1 d (I1.hok.fresh M.dbig)⟩
    · by_cases hb : b = e
      · have q' : G'.get? b = some o := q
        rw [hb, ge] at q'; cases q'
      · exact (gk b hb).symm.trans q
    · rw [upd_ne (Ne.symm M.dne)]
      exact I1.hok.fresh M.new
end
section
variable {X : Cx} {T : Bool} {τ : TEnv} {M : Mem} {P : PK'} {E : XKx} {e a b c : Expr} {es : List Expr} {pos p pos2 : Pos} {R : RK} {rest : List Stmt} {x n f ns : Str} {C fI : Addr} {k : Nat}
/-- raise C(e) -/
theorem ws_raise (hc : X.calm = true) (S : SupX X.prog X.K C fI ns f) (gC : X.mg x = some (.ref C)) (hms : X.mg "super" = none) (hr : Room k X.A)
    (h : EX X false e τ M (fun d M1 => R (.ex ⟨C, [f], [d]⟩ τ) M1) (fun y M1 => R (.ex y τ) M1)) (hg : Gl X x := by rfl) (hdb : (x == ("__debug__" : Str)) = false := by decide)
    (he : starEach (e :: []) X.env = (false, eval e X.env) :: starEach [] X.env := by rfl) (hpl : (backTo pos (starEach [] X.env)).any (·.1) = false := by rfl) :
    WS X T (.Raise (some (.Call (.Name x p) [e] [] pos)) none pos2 :: rest) τ M R := .mk fun W tk σ G H hE hH D hR => by
  refine ws_step (ps_raise hc tk (pmk_sup (ta := tWA X false [e]) S gC hms hr pa_W hg hdb he hpl)) ?_
  refine wa_cons (Q := fun vs H1 => ∃ v, vs = [v] ∧ ∀ d, H1 d = none → W (.ref C) (some d) σ (upd H1 d (.xd [(f, v)]))) he ?_
  refine h.run W tk σ G H hE hH _ ?_ (ex_out hR hE)
  intro d M1 v G1 H1 hp s1 h1 dv
  refine tWA_of pa_nil ?_
  refine ⟨v, rfl, fun dd hd => ?_⟩
  obtain ⟨s2, h2⟩ := Stp.new (o := .xd [(f, v)]) h1 hd
  exact hR _ _ _ _ hp (s1.trans s2) h2 σ (some dd) ((hE.up s1.gg).up s2.gg) (.inr ⟨dd, [v], rfl, upd_same, .cons (dv.up s2.gg) .nil⟩)
end
end Kh

set_option Elab.async false
set_option linter.all false
set_option maxRecDepth 100000
set_option maxHeartbeats 1000000
namespace Kh
open PySem PySem.Spec L2
section
variable {X : Cx} {T : Bool} {τ : TEnv} {M : Mem} {P : PK'} {E : XKx} {e a b c o value : Expr} {es : List Expr} {pos pos' apos tpos : Pos} {R : RK} {rest : List Stmt} {x : Str}
/-- the name of a built-in type -/
theorem ex_gty {n : String} (hm : X.mg x = none) (hv : bootBuiltins x = some (.type n)) (h : P (.raw (.ty n)) M) (hg : Gl X x := by rfl) (hn : x ≠ "__name__" := by decide) (hd : (x == ("__debug__" : Str)) = false := by decide) : EX X T (.Name x pos) τ M P E :=
  ex_c (pe_bltn (v := .ty n) hg hm hv rfl hn hd) (fun _ => den_raw) h
/-- a list cell is changed no more -/
def FrzP (P : PK') : PK' := fun d M => ∃ p ds M3, d = .raw (.ref p) ∧ M.Perm ((p, .lst ds) :: M3) ∧ P (.lst ds) M3
theorem ex_frz (h : EX X T e τ M (FrzP P) E) : EX X T e τ M P E := .mk fun W tk σ G H hE hH Q hP hX =>
  h.run W tk σ G H hE hH Q (fun d M2 v G2 H2 ⟨p, ds, M3, ed, pm, hp⟩ s h2 dv => by
    subst ed
    obtain ⟨G', s3, h3, d3⟩ := freezeL (h2.perm pm)
    rw [dv.raw_inv]
    exact hP _ _ _ _ _ hp ((s.perm (List.Perm.refl _) pm).trans s3) h3 d3) hX
/-- cells that nothing names any more -/
theorem Hst.drop {K : PySem.W.Frag} {G H : Hp} {A B : Mem} (h : Hst K G (A ++ B) H) : Hst K G A H := h.left
theorem Stp.drop {G H G2 H2 : Hp} {A B : Mem} (s : Stp G M H G2 (A ++ B) H2) : Stp G M H G2 A H2 := ⟨s.gg, s.hh, s.fr, fun b hb => s.ad b (by rw [adr_append]; exact List.mem_append_left _ hb)⟩
theorem ws_drop {ss : List Stmt} {A B : Mem} (pm : M.Perm (A ++ B)) (h : WS X T ss τ A R) : WS X T ss τ M R := .mk fun W tk σ G H hE hH D hR => by
  have h2 := hH.perm pm
  have s2 : Stp G M H G A H := (Stp.refl.perm (List.Perm.refl _) pm).drop
  exact h.run W tk σ G H hE h2.drop D (hR.step s2)
end
/-- the law's def at its script -/
theorem law_spS {K : PySem.W.Frag} {H : Hp} {a : Addr} {ns : List Int} {S : Spc} (hS : SqL K H a (ns.map V.int)) (h : S [.scr ns] [] (fun d _ => d = .bl true) E0') : toSp K S [.ref a] H (fun v _ => v = .bl true) fun _ _ _ => False :=
  ⟨H, [.scr ns], [], _, _, .cons (by simp only [Den]; exact ⟨a, rfl, hS⟩) .nil, ⟨Same.refl _, (fun _ h => by cases h), (fun _ h => by cases h), List.Pairwise.nil⟩, h, fun d M2 v G2 H2 e s h2 dv => by subst e; exact dv.bl_inv, noX⟩
/-! ### isinstance(d, int), isinstance(d, bool) of plain data -/
section
variable {K : PySem.W.Frag}
end
/-! ### calls of defs, all cells handed -/
def UpP {α : Type} (P : α → Mem → Prop) : α → Mem → Prop := fun d Mc => ∃ M2, (Mc ++ []).Perm M2 ∧ P d M2
theorem UpP.mk {α : Type} {P : α → Mem → Prop} {d : α} {M : Mem} (h : P d M) : UpP P d M := ⟨M, by rw [List.append_nil], h⟩
theorem ap_all {S : Spc} {ds : List Dat} {M : Mem} {P : PK'} {E : XKx} (h : S ds M (UpP P) (UpP E)) : AP S ds M P E := ⟨M, [], by rw [List.append_nil], h⟩
section
variable {X : Cx} {T : Bool} {τ : TEnv} {M : Mem} {P : PK'} {E : XKx} {e o : Expr} {es : List Expr} {pos p apos : Pos} {k : Nat} {f C : Addr} {fd : FuncData} {ps : List Str} {S : Spc} {x m qual : Str} {st : Stmt}
theorem ex_callF (F : FnD X.prog X.w X.K X.mg X.base k f fd ps S) (hr : Room k X.A) (hm : X.mg x = some (.ref f)) (FF : Fun X.K x qual st f fd) (hb : Binds X.K fd ps [])
    (h : EA X T (e :: es) τ M (fun ds M1 => S ds M1 (UpP P) (UpP E)) E) (hg : Gl X x := by rfl) (hdb : (x == ("__debug__" : Str)) = false := by decide) (he : starEach (e :: es) X.env = (false, eval e X.env) :: starEach es X.env := by rfl) (hpl : (backTo pos (starEach es X.env)).any (·.1) = false := by rfl) :
    EX X T (.Call (.Name x p) (e :: es) [] pos) τ M P E := ex_call (df := []) (dvs := []) F hr hm FF.kp hb .nil (fun _ => .nil) (.mk fun W tk σ G H hE hH Q hP hX => h.run W tk σ G H hE hH Q (fun ds M2 vs G2 H2 hs => hP ds M2 vs G2 H2 (by show AP S (ds ++ []) M2 P E; rw [List.append_nil]; exact ap_all hs)) hX) hg hdb he hpl
end
section
variable {X : Cx} {T : Bool} {τ : TEnv} {M : Mem} {R : RK} {rest : List Stmt}
/-- a, b = x, y with plain local names -/
theorem ws_par {x y : Str} {a b : Expr} {px py pt pos : Pos} {kt k2 pt2} (h : EA X false [a, b] τ M (fun ds M1 => ∃ d1 d2, ds = [d1, d2] ∧ WS X T rest ((τ.set (ixIn X.N x) (some d1)).set (ixIn X.N y) (some d2)) M1 R) (fun z M1 => R (.ex z τ) M1))
    (hc : X.calm = true := by rfl) (hi : X.N[ixIn X.N x]? = some x := by rfl) (hj : X.N[ixIn X.N y]? = some y := by rfl) (hij : ixIn X.N x ≠ ixIn X.N y := by first | decide | exact of_decide_eq_true (by kernel_rfl)) (hN : X.N.Nodup := by first | decide +kernel | exact of_decide_eq_true (by kernel_rfl))
    (hx : X.env.scope.names.lookup x = some .local := by rfl) (hy : X.env.scope.names.lookup y = some .local := by rfl)
    (hw : swappedStores [.Tuple [.Name x px, .Name y py] kt pt] (.Tuple [a, b] k2 pt2) X.env = pure (some [x, y]) := by rfl)
    (hs : swapsWithSole [.Tuple [.Name x px, .Name y py] kt pt] (.Tuple [a, b] k2 pt2) pos.line X.env = pure false := by rfl) :
    WS X T (.Assign [.Tuple [.Name x px, .Name y py] kt pt] (.Tuple [a, b] k2 pt2) pos :: rest) τ M R := .mk fun W tk σ G H hE hH D hR => tWSs_len fun hl => by
  refine ws_step (ps_par hc hN hi hj hij hx hy pa_W hw hs) ?_
  refine h.run W tk σ G H hE hH _ ?_ (ex_out hR hE)
  rintro ds M1 vs G1 H1 ⟨d1, d2, rfl, hk⟩ s1 h1 dv
  obtain ⟨v, u, rfl, e1, e2⟩ := two_inv dv
  refine ⟨v, u, rfl, ?_⟩
  have l1 : ixIn X.N x < σ.length := by rw [hl]; exact (List.getElem?_eq_some_iff.mp hi).1
  have l2 : ixIn X.N y < (σ.set (ixIn X.N x) (some v)).length := by rw [List.length_set, hl]; exact (List.getElem?_eq_some_iff.mp hj).1
  exact hk.run W tk _ G1 H1 (((hE.up s1.gg).set l1 e1).set l2 e2) h1 D (hR.step s1)
end
/-- ** of a wide base -/
def CPowW (i j : Int) : Prop := 0 ≤ j ∧ (Builtin.Int.intBits i : Int) * j ≤ 2 ^ 27
instance {i j : Int} : Decidable (CPowW i j) := inferInstanceAs (Decidable (_ ∧ _))
theorem WS.imp {X : Cx} {T : Bool} {τ : TEnv} {M : Mem} {R R' : RK} {ss : List Stmt} (h : WS X T ss τ M R') (hi : ∀ o M2, R' o M2 → R o M2) : WS X T ss τ M R := .mk fun W tk σ G H hE hH D hR =>
  h.run W tk σ G H hE hH D fun o M2 G2 H2 r s h2 => hR o M2 G2 H2 (hi _ _ r) s h2
end Kh

set_option Elab.async false
set_option linter.all false
set_option maxRecDepth 100000
set_option maxHeartbeats 1000000
namespace Kh
open PySem PySem.Spec L2
/-! ### data that are equal by their shape, or are one object -/
mutual
def eqT : Dat → Dat → Bool
  | .non, .non => true
  | .bl a, .bl b => decide (a = b)
  | .int i, .int j => decide (i = j)
  | .str s, .str t => decide (s = t)
  | .lst xs, .lst ys => eqTL xs ys
  | .tup xs, .tup ys => eqTL xs ys
  | .at a _, .at b _ => decide (a = b)
  | .raw (.ref a), .raw (.ref b) => decide (a = b)
  | _, _ => false
def eqTL : List Dat → List Dat → Bool
  | [], [] => true
  | x :: xs, y :: ys => eqT x y && eqTL xs ys
  | _, _ => false
end
mutual
def dpD : Dat → Nat
  | .lst xs => dpDL xs + 1
  | .tup xs => dpDL xs + 1
  | _ => 1
def dpDL : List Dat → Nat
  | [] => 0
  | x :: xs => max (dpD x) (dpDL xs)
end
theorem all_true (n : Nat) : ((List.range n).all fun _ => true) = true := List.all_eq_true.mpr fun _ _ => rfl
section
variable {X : Cx} {pins : List (Addr × Obj)} {σ : L2.St} {H G : Hp} {s : Shared}
open PySem.SeqAt (EqAt RcAt RcNeAt)
theorem eqTL_len : ∀ {xs ys : List Dat}, eqTL xs ys = true → xs.length = ys.length
  | [], [], _ => rfl
  | x :: xs, y :: ys, h => by
    simp only [eqTL, Bool.and_eq_true] at h
    simp only [List.length_cons, eqTL_len h.2]
  | [], _ :: _, h => by simp [eqTL] at h
  | _ :: _, [], h => by simp [eqTL] at h
mutual
theorem eqT_run (I : Inv X pins σ H s) (hs : Same G H) : ∀ (x y : Dat) (A : Around) (v u : V) (v' u' : Value), eqT x y = true → A.units + dpD x < cLine → Den X.K G x v → Den X.K G y u → RelV v v' → RelV u u' → EqAt A s v' u' true
  | .non, y, A, v, u, v', u', h, hu, dx, dy, r, r' => by
    cases y <;> simp [eqT] at h
    rw [dx.non_inv] at r; rw [dy.non_inv] at r'
    exact eqAt_same r r' rfl
  | .bl a, y, A, v, u, v', u', h, hu, dx, dy, r, r' => by
    cases y <;> simp [eqT] at h
    subst h
    rw [dx.bl_inv] at r; rw [dy.bl_inv] at r'
    exact eqAt_same r r' rfl
  | .int i, y, A, v, u, v', u', h, hu, dx, dy, r, r' => by
    cases y <;> simp [eqT] at h
    subst h
    rw [dx.int_inv] at r; rw [dy.int_inv] at r'
    exact eqAt_same r r' rfl
  | .str i, y, A, v, u, v', u', h, hu, dx, dy, r, r' => by
    cases y <;> simp [eqT] at h
    subst h
    rw [dx.str_inv] at r; rw [dy.str_inv] at r'
    exact eqAt_same r r' rfl
  | .at a d, y, A, v, u, v', u', h, hu, dx, dy, r, r' => by
    cases y <;> simp [eqT] at h
    subst h
    obtain ⟨rfl, _⟩ := dx.at_inv
    obtain ⟨rfl, _⟩ := dy.at_inv
    cases r; cases r'
    exact EqAt.same _
  | .lst xs, y, A, v, u, v', u', h, hu, dx, dy, r, r' => by
    cases y with
    | lst ys =>
      have h : eqTL xs ys = true := by simpa [eqT] using h
      have hu : A.units + (dpDL xs + 1) < cLine := by simpa only [dpD] using hu
      obtain ⟨a, vs, rfl, ga, da⟩ := dx.lst_inv
      obtain ⟨b, us, rfl, gb, db⟩ := dy.lst_inv
      cases r; cases r'
      by_cases e : a = b
      · subst e; exact EqAt.same _
      · obtain ⟨ws, r1, p1, _⟩ := I.list (SqL.of (hs _ _ ga))
        obtain ⟨zs, r2, p2, _⟩ := I.list (SqL.of (hs _ _ gb))
        have hz : ws.toArray.size = zs.toArray.size := by rw [List.size_toArray, List.size_toArray, ← r1.length, ← r2.length, da.length, db.length, eqTL_len h]
        refine EqAt.of_refs e ?_
        have := RcAt.lists (A := A) (e := fun _ => true) p1.isList p2.isList hz (by omega) (fun j h1 h2 => by
          have := eqTL_run I hs xs ys A.in1 vs us ws zs h (by show A.units + 1 + dpDL xs < cLine; omega) da db r1 r2 j (by simpa using h1) (by simpa using h2)
          simpa using this)
        rw [all_true] at this
        exact this
    | _ => simp [eqT] at h
  | .tup xs, y, A, v, u, v', u', h, hu, dx, dy, r, r' => by
    cases y with
    | tup ys =>
      have h : eqTL xs ys = true := by simpa [eqT] using h
      have hu : A.units + (dpDL xs + 1) < cLine := by simpa only [dpD] using hu
      obtain ⟨a, vs, rfl, ga, da⟩ := dx.tup_inv
      obtain ⟨b, us, rfl, gb, db⟩ := dy.tup_inv
      cases r; cases r'
      by_cases e : a = b
      · subst e; exact EqAt.same _
      · obtain ⟨ws, r1, p1, _⟩ := I.tuple (SqT.of (hs _ _ ga))
        obtain ⟨zs, r2, p2, _⟩ := I.tuple (SqT.of (hs _ _ gb))
        have hz : ws.toArray.size = zs.toArray.size := by rw [List.size_toArray, List.size_toArray, ← r1.length, ← r2.length, da.length, db.length, eqTL_len h]
        refine EqAt.of_refs e ?_
        have := RcAt.tuples (A := A) (e := fun _ => true) p1 p2 (by omega) (fun j h1 h2 => by
          have := eqTL_run I hs xs ys A.in1 vs us ws zs h (by show A.units + 1 + dpDL xs < cLine; omega) da db r1 r2 j (by simpa using h1) (by simpa using h2)
          simpa using this)
        rw [all_true, hz] at this
        simpa using this
    | _ => simp [eqT] at h
  | .raw w, y, A, v, u, v', u', h, hu, dx, dy, r, r' => by
    have e : ∃ a, w = .ref a ∧ y = .raw (.ref a) := by
      cases y with
      | raw z =>
        cases w <;> cases z <;> simp [eqT] at h
        subst h; exact ⟨_, rfl, rfl⟩
      | _ => cases w <;> simp [eqT] at h
    obtain ⟨a, rfl, rfl⟩ := e
    rw [dx.raw_inv] at r; rw [dy.raw_inv] at r'
    cases r; cases r'
    exact EqAt.same _
  | .dic0, y, A, v, u, v', u', h, hu, dx, dy, r, r' => by simp [eqT] at h
  | .scr ns, y, A, v, u, v', u', h, hu, dx, dy, r, r' => by simp [eqT] at h
  | .obj C ns ds, y, A, v, u, v', u', h, hu, dx, dy, r, r' => by simp [eqT] at h
  | .xn a dd ns ds, y, A, v, u, v', u', h, hu, dx, dy, r, r' => by simp [eqT] at h
theorem eqTL_run (I : Inv X pins σ H s) (hs : Same G H) : ∀ (xs ys : List Dat) (A : Around) (vs us : List V) (ws zs : List Value), eqTL xs ys = true → A.units + dpDL xs < cLine → DenL X.K G xs vs → DenL X.K G ys us → Vals vs ws → Vals us zs →
    ∀ j (h1 : j < ws.length) (h2 : j < zs.length), EqAt A s ws[j] zs[j] true
  | [], ys, A, vs, us, ws, zs, h, hu, dx, dy, r, r', j, h1, h2 => by
    rw [dx.nil_inv] at r
    cases r
    exact absurd h1 (Nat.not_lt_zero _)
  | x :: xs, ys, A, vs, us, ws, zs, h, hu, dx, dy, r, r', j, h1, h2 => by
    cases ys with
    | nil => simp [eqTL] at h
    | cons y ys =>
      simp only [eqTL, Bool.and_eq_true] at h
      have hu : A.units + max (dpD x) (dpDL xs) < cLine := by simpa only [dpDL] using hu
      obtain ⟨v, vr, rfl, dv, dvr⟩ := dx.cons_inv
      obtain ⟨u, ur, rfl, du, dur⟩ := dy.cons_inv
      cases r with
      | cons ra rb =>
        cases r' with
        | cons ra' rb' =>
          cases j with
          | zero => exact eqT_run I hs x y A v u _ _ h.1 (by omega) dv du ra ra'
          | succ j => exact eqTL_run I hs xs ys A vr ur _ _ h.2 (by omega) dvr dur rb rb' j (Nat.lt_of_succ_lt_succ h1) (Nat.lt_of_succ_lt_succ h2)
end
end
section
variable {X : Cx} {T : Bool} {τ : TEnv} {M : Mem} {P : PK'} {E : XKx} {e a b c o value : Expr} {es : List Expr} {pos pos' apos tpos : Pos} {R : RK} {rest : List Stmt} {x : Str}
open PySem.SeqAt (EqAt RcAt RcNeAt)
/-- two lists of one shape: !=, == -/
theorem o_neLT {xs ys : List Dat} (h : eqTL xs ys = true) (hd : dpDL xs ≤ 60) (hu : X.A.units + 64 < cLine) (hP : P (.bl false) M) : OP X T (compareOp .NotEq) (.lst xs) (.lst ys) M P := by
  intro G H v u hH dx dy Q hQ pins s σ v' u' _ I r r'
  obtain ⟨a, vs, rfl, ga, da⟩ := dx.lst_inv
  obtain ⟨b, us, rfl, gb, db⟩ := dy.lst_inv
  cases r; cases r'
  obtain ⟨ws, r1, p1, _⟩ := I.list (SqL.of (hH.sub _ _ ga))
  obtain ⟨zs, r2, p2, _⟩ := I.list (SqL.of (hH.sub _ _ gb))
  have hz : ws.toArray.size = zs.toArray.size := by rw [List.size_toArray, List.size_toArray, ← r1.length, ← r2.length, da.length, db.length, eqTL_len h]
  have := RcNeAt.lists (A := X.A) (e := fun _ => true) p1.isList p2.isList hz (by omega) (fun j h1 h2 => by
    have := eqTL_run I hH.sub xs ys X.A.in1 vs us ws zs h (by show X.A.units + 1 + dpDL xs < cLine; omega) da db r1 r2 j (by simpa using h1) (by simpa using h2)
    simpa using this)
  rw [all_true] at this
  exact this _ _ _ _ ⟨.bl false, H, I, rfl, hQ _ _ _ _ _ hP Stp.refl hH den_bl⟩
theorem o_eqLT {xs ys : List Dat} (h : eqTL xs ys = true) (hd : dpDL xs ≤ 60) (hu : X.A.units + 64 < cLine) (hP : P (.bl true) M) : OP X T (compareOp .Eq) (.lst xs) (.lst ys) M P := by
  intro G H v u hH dx dy Q hQ pins s σ v' u' _ I r r'
  obtain ⟨a, vs, rfl, ga, da⟩ := dx.lst_inv
  obtain ⟨b, us, rfl, gb, db⟩ := dy.lst_inv
  cases r; cases r'
  obtain ⟨ws, r1, p1, _⟩ := I.list (SqL.of (hH.sub _ _ ga))
  obtain ⟨zs, r2, p2, _⟩ := I.list (SqL.of (hH.sub _ _ gb))
  have hz : ws.toArray.size = zs.toArray.size := by rw [List.size_toArray, List.size_toArray, ← r1.length, ← r2.length, da.length, db.length, eqTL_len h]
  have := RcAt.lists (A := X.A) (e := fun _ => true) p1.isList p2.isList hz (by omega) (fun j h1 h2 => by
    have := eqTL_run I hH.sub xs ys X.A.in1 vs us ws zs h (by show X.A.units + 1 + dpDL xs < cLine; omega) da db r1 r2 j (by simpa using h1) (by simpa using h2)
    simpa using this)
  rw [all_true] at this
  exact this _ _ _ _ ⟨.bl true, H, I, rfl, hQ _ _ _ _ _ hP Stp.refl hH den_bl⟩
/-- two lists of different lengths -/
theorem o_eqLn {xs ys : List Dat} (h : xs.length ≠ ys.length) (hu : X.A.units + 64 < cLine) (hP : P (.bl false) M) : OP X T (compareOp .Eq) (.lst xs) (.lst ys) M P := by
  intro G H v u hH dx dy Q hQ pins s σ v' u' _ I r r'
  obtain ⟨a, vs, rfl, ga, da⟩ := dx.lst_inv
  obtain ⟨b, us, rfl, gb, db⟩ := dy.lst_inv
  cases r; cases r'
  obtain ⟨ws, r1, p1, _⟩ := I.list (SqL.of (hH.sub _ _ ga))
  obtain ⟨zs, r2, p2, _⟩ := I.list (SqL.of (hH.sub _ _ gb))
  have hz : (ws.toArray.size != zs.toArray.size) = true := by
    rw [List.size_toArray, List.size_toArray, ← r1.length, ← r2.length, da.length, db.length]
    simpa using h
  exact RcAt.lists_lengths (A := X.A) p1.isList p2.isList hz (by omega) _ _ _ _ ⟨.bl false, H, I, rfl, hQ _ _ _ _ _ hP Stp.refl hH den_bl⟩
theorem o_neLn {xs ys : List Dat} (h : xs.length ≠ ys.length) (hu : X.A.units + 64 < cLine) (hP : P (.bl true) M) : OP X T (compareOp .NotEq) (.lst xs) (.lst ys) M P := by
  intro G H v u hH dx dy Q hQ pins s σ v' u' _ I r r'
  obtain ⟨a, vs, rfl, ga, da⟩ := dx.lst_inv
  obtain ⟨b, us, rfl, gb, db⟩ := dy.lst_inv
  cases r; cases r'
  obtain ⟨ws, r1, p1, _⟩ := I.list (SqL.of (hH.sub _ _ ga))
  obtain ⟨zs, r2, p2, _⟩ := I.list (SqL.of (hH.sub _ _ gb))
  have hz : (ws.toArray.size != zs.toArray.size) = true := by
    rw [List.size_toArray, List.size_toArray, ← r1.length, ← r2.length, da.length, db.length]
    simpa using h
  exact RcNeAt.lists_lengths (A := X.A) p1.isList p2.isList hz (by omega) _ _ _ _ ⟨.bl true, H, I, rfl, hQ _ _ _ _ _ hP Stp.refl hH den_bl⟩
end
/-! d is told equal to itself: no object of the heap but by its place -/
mutual
def selfE : Dat → Bool
  | .non | .bl _ | .int _ | .str _ | .at _ _ => true
  | .lst xs => selfEL xs
  | .tup xs => selfEL xs
  | _ => false
def selfEL : List Dat → Bool
  | [] => true
  | x :: xs => selfE x && selfEL xs
end
mutual
theorem eqT_self : ∀ d : Dat, selfE d = true → eqT d d = true
  | .non, _ => rfl
  | .bl _, _ => by simp [eqT]
  | .int _, _ => by simp [eqT]
  | .str _, _ => by simp [eqT]
  | .at _ _, _ => by simp [eqT]
  | .lst xs, h => by simp only [eqT]; exact eqTL_self xs (by simpa [selfE] using h)
  | .tup xs, h => by simp only [eqT]; exact eqTL_self xs (by simpa [selfE] using h)
  | .raw _, h => by simp [selfE] at h
  | .dic0, h => by simp [selfE] at h
  | .scr _, h => by simp [selfE] at h
  | .obj _ _ _, h => by simp [selfE] at h
  | .xn _ _ _ _, h => by simp [selfE] at h
theorem eqTL_self : ∀ ds : List Dat, selfEL ds = true → eqTL ds ds = true
  | [], _ => rfl
  | d :: ds, h => by
    simp only [selfEL, Bool.and_eq_true] at h
    simp only [eqTL, Bool.and_eq_true]
    exact ⟨eqT_self d h.1, eqTL_self ds h.2⟩
end
end Kh

set_option Elab.async false
set_option linter.all false
set_option maxRecDepth 100000
set_option maxHeartbeats 1000000
namespace Kh
open PySem PySem.Spec L2
section
variable {X : Cx} {T : Bool} {τ : TEnv} {M : Mem} {P : PK'} {E : XKx} {e a b c o value : Expr} {es : List Expr} {pos pos' p apos tpos : Pos} {R : RK} {rest : List Stmt} {x f n : Str} {C D fa : Addr} {k : Nat} {fd : FuncData} {ps : List Str} {S : Spc}
/-! ### self.f = e -/
def putD (f : Str) (v : Dat) : List (Str × Dat) → List (Str × Dat)
  | [] => [(f, v)]
  | (g, x) :: r => if g = f then (g, v) :: r else (g, x) :: putD f v r
theorem denF_put {K : PySem.W.Frag} {G : Hp} {d : Dat} {v : V} (h : Den K G d v) : ∀ {fs : List (Str × Dat)} {vs : List (Str × V)}, DenF K G fs vs → DenF K G (putD f d fs) (putF f v vs)
  | [], [], _ => ⟨rfl, .cons h .nil⟩
  | [], _ :: _, q => by have := q.1; simp at this
  | _ :: _, [], q => by have := q.1; simp at this
  | (g, x) :: fs, (g', u) :: vs, ⟨q1, q2⟩ => by
    rw [List.map_cons, List.map_cons] at q1
    obtain ⟨e1, e2⟩ := List.cons.inj q1
    have e1 : g' = g := e1
    subst e1
    obtain ⟨u', r, e, hu, t⟩ := (show DenL K G (x :: fs.map (·.2)) (u :: vs.map (·.2)) from q2).cons_inv
    obtain ⟨rfl, rfl⟩ := List.cons.inj e
    by_cases z : g' = f
    · simp only [putD, putF, if_pos z]
      exact ⟨by simp [e2], .cons h t⟩
    · simp only [putD, putF, if_neg z]
      have ih := denF_put h ⟨e2, t⟩
      exact ⟨by simp only [List.map_cons, ih.1], .cons hu ih.2⟩
theorem DenF.length {K : PySem.W.Frag} {G : Hp} {fs : List (Str × Dat)} {vs : List (Str × V)} (h : DenF K G fs vs) : vs.length = fs.length := by
  have := congrArg List.length h.1
  simpa using this
theorem ws_fld (h : EX X false value τ M (fun d M1 => EX X false o τ M1 (fun od M2 => ∃ q C dx fs, od = .raw (.ref q) ∧ (q, MC.ins C dx fs) ∈ M2 ∧ Cls X.K C ∧ NoAttr X.K C f ∧ fs.length < 1000 ∧ WS X T rest τ (putC q (.ins C dx (putD f d fs)) M2) R) (fun x M2 => R (.ex x τ) M2)) (fun x M1 => R (.ex x τ) M1))
    (hs : swapsWith value (some (.Attribute o f pos')) pos.line X.env = pure false := by rfl) : WS X T (.Assign [.Attribute o f pos'] value pos :: rest) τ M R := .mk fun W tk σ G H hE hH D hR => by
  refine ws_step (ps_fld (pe_W (e := o)) (pe_W (e := value)) hs) ?_
  refine h.run W tk σ G H hE hH _ ?_ (ex_out hR hE)
  intro d M1 v G1 H1 ho s1 h1 dv
  refine ho.run W tk σ G1 H1 (hE.up s1.gg) h1 _ ?_ ((ex_out hR hE).step s1)
  rintro od M2 ov G2 H2 ⟨q, C, dx, fs, rfl, hm, hc, hn, hl, hw⟩ s2 h2 dov
  obtain ⟨vs, g1, g2, g3⟩ := h2.mem _ hm
  have hcell : MH X.K G2 (upd H2 q (.ins C dx (putF f v vs))) (q, .ins C dx (putD f d fs)) := by
    have ne : dx ≠ q := fun z => by rw [z, g1] at g2; cases g2
    exact ⟨_, upd_same, by rw [upd_ne ne]; exact g2, denF_put (dv.up s2.gg) g3⟩
  obtain ⟨s3, h3⟩ := put_ok (c' := .ins C dx (putD f d fs)) (H2 := upd H2 q (.ins C dx (putF f v vs))) h2 hm rfl (fun b hb => upd_ne hb) hcell
  exact ⟨q, C, dx, vs, dov.raw_inv, g1, hc, hn, by rw [g3.length]; exact hl, hw.run W tk σ G2 _ ((hE.up s1.gg).up s2.gg) h3 D (hR.step ((s1.trans s2).trans s3))⟩
/-! ### C(), C without __init__ -/
structure Mk0 (K : PySem.W.Frag) (C : Addr) : Prop where
  makes : PySem.W.makesIn K C = true
  init : PySem.W.findIn K (.ref C) "__init__" = some (some (.builtin "object.__init__"))
  kp : PySem.W.keepIn K (.ref C) = true
  top : PySem.W.mroIn K C (.type "object") = some true
theorem ex_new0 (Mk' : Mk0 X.K C) (hm : X.mg x = some (.ref C)) (h : ∀ q dx, q ∉ adr M → dx ∉ adr M → dx ≠ q → MadeP P q ((q, .ins C dx []) :: M)) (hg : Gl X x := by rfl) (hdb : (x == ("__debug__" : Str)) = false := by decide) :
    EX X T (.Call (.Name x p) [] [] pos) τ M P E := .mk fun W tk σ G H hE hH Q hP hX pins s k0 I => by
  refine wpAny_Call_Name_kw (ld_glob I hg hm ?_ hdb)
  refine PySem.W.callWith_K0 I.kIn Mk'.kp ?_
  have hx : H (s.heap.objs.size + 1) = none := I.hok.fresh (Nat.le_succ _)
  have hdx : H s.heap.objs.size = none := I.hok.fresh (Nat.le_refl _)
  have ne : s.heap.objs.size ≠ s.heap.objs.size + 1 := Nat.ne_of_lt (Nat.lt_succ_self _)
  have n1 : s.heap.objs.size + 1 ∉ adr M := fun z => hH.there _ z hx
  have n2 : s.heap.objs.size ∉ adr M := fun z => hH.there _ z hdx
  obtain ⟨h1, s1⟩ := hst_new (C := C) hH hx hdx ne
  have q := madeP_ce hP (h _ _ n1 n2 ne) s1 h1
  have I2 := Inv.made (C := C) I
  refine wpAny_call (make_map0 I.kIn Mk'.makes Mk'.init (fun self => PySem.W.Looks.of_pure (PySem.W.oi_bind self)) ?_)
  have hget : ((s.heap.push PySem.W.emptyDict).push (PySem.W.instObj C s.heap.objs.size)).get? (s.heap.objs.size + 1) = some (PySem.W.instObj C s.heap.objs.size) := by
    have := Heap.get?_push_size (s.heap.push PySem.W.emptyDict) (o := PySem.W.instObj C s.heap.objs.size) rfl
    rwa [Heap.size_push] at this
  have t1 : PySem.W.Looks (model X.prog X.w) ((s.heap.push PySem.W.emptyDict).push (PySem.W.instObj C s.heap.objs.size)) (typeOf (.ref (s.heap.objs.size + 1))) (.ref C) := (PySem.W.Looks.ld hget).andThen .now
  have t2 : PySem.W.Looks (model X.prog X.w) ((s.heap.push PySem.W.emptyDict).push (PySem.W.instObj C s.heap.objs.size)) (isInstance (.ref (s.heap.objs.size + 1)) (.type "object")) true := t1.andThen (PySem.W.looks_mroIn I2.kIn Mk'.top)
  refine codeAny_call_builtin PySem.W.oi_plain PySem.W.entry_oi (@PySem.W.check_slot (model X.prog X.w) _ _ _ "object.__init__" "object" "__init__" (.ref (s.heap.objs.size + 1)) [] [] _ PySem.W.oi_kind PySem.W.oi_split t2 (PySem.W.oi_args (.ref (s.heap.objs.size + 1))) ?_)
  rw [PySem.W.oi_run]
  exact wpAny_pure (And.intro rfl ⟨V.ref (s.heap.objs.size + 1), _, I2, rfl, q⟩)
/-! ### own == -/
end
/-! ### defs with defaults -/
structure FunV (K : PySem.W.Frag) (x qual : Str) (st : Stmt) (f : Addr) (fd : FuncData) : Prop where
  ex : ∃ (oc : Value) (od : Option Addr) (dV kV doc pm : Value) (an : Option Addr) (cdv ct : Value) (osl : Array (Option Value)),
    fd = PySem.W.fnOf x qual (defArgs st) (defBody st) (defScope st) dV kV doc pm an cdv ct ∧ K.lookup f = some ⟨oc, od, .func fd, osl⟩ ∧ PySem.W.codeIn K cdv qual = true
  kp : PySem.W.keepIn K (.ref f) = true
theorem fn_dV {P : Program} {w : World} {K : PySem.W.Frag} {mg : Str → Option Value} {base : Heap} {x qual : Str} {st : Stmt} {f : Addr} {fd : FuncData} {N ps : List Str} {k : Nat} {S : Spc} (T : Bool) (F : FunV K x qual st f fd) (Sc : FnScope N ps (defScope st)) (hT : T = true → ∃ x ∈ ps, (defScope st).names.lookup x = some .local) (len : ∀ ds M P E, S ds M P E → ds.length = ps.length)
    (body : ∀ (cdv : Value) (A : Around) (outer : List Env) (s : Shared) (H : Hp) (E : XK), Room k (A.deeper (PyProof.Rows.envOfC qual (defScope st) s.heap.objs.size f cdv)) → ∀ ds M Pd PE, S ds M Pd PE →
      WS (cxOf (L2.CX P w) P w K mg base N qual (defScope st) f cdv A outer s H E) T (defBody st) (startT N ds) M (retR Pd PE)) : FnD P w K mg base (k + 1) f fd ps S := by
  obtain ⟨oc, od, dV, kV, doc, pm, an, cdv, ct, osl, rfl, lk, hcd⟩ := F.ex
  refine fn_w (T := T) lk hcd Sc hT (fun vs H Q E h => ?_) (fun A outer s H vs Q E hr h => ?_)
  · obtain ⟨G, ds, M, Pd, PE, dv, _, hs, _⟩ := h
    rw [dv.length]; exact len _ _ _ _ hs
  · obtain ⟨G, ds, M, Pd, PE, dv, hH, hs, hP, hX⟩ := h
    exact (body cdv A outer s H E hr ds M Pd PE hs).run _ (takes_of rfl rfl rfl rfl) _ G H (denE_start dv) hH _ (cs_ret hP fun x M2 G2 H2 d p s h dx σ => hX x M2 G2 H2 d p s h dx)
/-! ### isinstance between classes -/
section
variable {K : PySem.W.Frag} {C D : Addr} {b : Bool}
theorem kit_self {t : Value} : PySem.W.kitOne K t t = some true := by
  unfold PySem.W.kitOne
  rw [if_pos (by simp)]
theorem kit_rr (h2 : PySem.W.isClsIn K D = true) (h3 : PySem.W.typeIn K (.ref D) = some (.type "type")) (h : PySem.W.subIn K (.ref C) (.ref D) = some b) (hs : C = D → b = true) : PySem.W.kitOne K (.ref C) (.ref D) = some b := by
  by_cases e : C = D
  · subst e; rw [hs rfl]; exact kit_self
  · have e2 : ((PySem.W.clsIn K D).isSome && PySem.W.typeIn K (.ref D) == some (.type "type")) = true := by
      have h2' : (PySem.W.clsIn K D).isSome = true := h2
      rw [h2', h3] <;> rfl
    show (if (Value.ref C == Value.ref D) = true then some true else if ((PySem.W.clsIn K D).isSome && PySem.W.typeIn K (.ref D) == some (.type "type")) = true then PySem.W.subIn K (.ref C) (.ref D) else none) = some b
    rw [if_neg (by simpa using e), if_pos e2]
    exact h
theorem kit_rr2 (h2 : PySem.W.isClsIn K D = true) (h3 : PySem.W.typeIn K (.ref D) = some (.type "type")) (hself : PySem.W.mroIn K C (.ref C) = some true) (h : PySem.W.subIn K (.ref C) (.ref D) = some b) : PySem.W.kitOne K (.ref C) (.ref D) = some b := kit_rr h2 h3 h fun e => by
  subst e
  have z : PySem.W.subIn K (.ref C) (.ref C) = some true := hself
  rw [z] at h
  exact (Option.some.inj h).symm
end
section
variable {X : Cx} {T : Bool} {τ : TEnv} {M : Mem} {P : PK'} {E : XKx} {e : Expr}
/-- an object of the heap, told with its place -/
def isR : Dat → Bool
  | .dic0 | .lst _ | .tup _ | .obj _ _ _ => true
  | _ => false
theorem den_isR {K : PySem.W.Frag} {G : Hp} {d : Dat} {v : V} (h : isR d = true) (dv : Den K G d v) : ∃ a, v = .ref a := by
  cases d with
  | dic0 => obtain ⟨a, rfl, _⟩ := dv.dic0_inv; exact ⟨a, rfl⟩
  | lst xs => obtain ⟨a, _, rfl, _⟩ := dv.lst_inv; exact ⟨a, rfl⟩
  | tup xs => obtain ⟨a, _, rfl, _⟩ := dv.tup_inv; exact ⟨a, rfl⟩
  | obj C ns xs => obtain ⟨a, _, _, rfl, _⟩ := dv.obj_inv; exact ⟨a, rfl⟩
  | _ => cases h
end
end Kh

set_option Elab.async false
set_option linter.all false
set_option maxRecDepth 100000
set_option maxHeartbeats 1000000
namespace Kh
open PySem PySem.Spec L2

/-! ### what a def computes, as a plain function: a value, an error, or out of what is told -/
inductive EK where
  | file | number | script | list | write | history | content | text | busy | closed
  deriving DecidableEq
/-- which own class -/
inductive OK where
  | file | full | keep | lean | dig | script | history | store | copier
  deriving DecidableEq
/-- a value of any kind; tag: the very object at an address -/
inductive Any where
  | non | bl (b : Bool) | int (i : Int) | str (s : Str) | lst (xs : List Any) | tup (xs : List Any) | dic | obj (k : OK) (fs : List Any) | tag (q : Addr) (x : Any) | cel (q : Addr)
mutual
def anyD (cl : OK → Addr × List Str) : Any → Dat
  | .non => .non
  | .bl b => .bl b
  | .int i => .int i
  | .str s => .str s
  | .lst xs => .lst (anyDL cl xs)
  | .tup xs => .tup (anyDL cl xs)
  | .dic => .dic0
  | .obj k fs => .obj (cl k).1 (cl k).2 (anyDL cl fs)
  | .tag q x => .at q (anyD cl x)
  | .cel q => .raw (.ref q)
def anyDL (cl : OK → Addr × List Str) : List Any → List Dat
  | [] => []
  | x :: xs => anyD cl x :: anyDL cl xs
end
theorem anyDL_map {cl : OK → Addr × List Str} : ∀ {xs : List Any}, anyDL cl xs = xs.map (anyD cl)
  | [] => by simp [anyDL]
  | x :: xs => by simp [anyDL, anyDL_map (xs := xs)]
structure Er where
  k : EK
  v : Any
inductive Res (α : Type) where
  | ok (a : α) | err (x : Er) | bad
  /-- whatever address is given out -/
  | all (f : Addr → Res α)
/-- how a turn of a loop ends -/
inductive Ctl (σ ρ : Type) where
  | nx (s : σ) | bk (s : σ) | rt (r : ρ)
namespace Res
def bind {α β : Type} : Res α → (α → Res β) → Res β
  | .ok a, k => k a
  | .err x, _ => .err x
  | .bad, _ => .bad
  | .all f, k => .all fun q => (f q).bind k
def Out {α : Type} : Res α → (α → Prop) → (Er → Prop) → Prop
  | .ok a, P, _ => P a
  | .err x, _, E => E x
  | .bad, _, _ => False
  | .all f, P, E => ∀ q, (f q).Out P E
/-- where nothing may be raised -/
def ne {α : Type} : Res α → Res α
  | .ok a => .ok a
  | .all f => .all fun q => (f q).ne
  | _ => .bad
end Res
section
variable {α β σ ρ : Type}
@[simp] theorem bind_ok {a : α} {k : α → Res β} : (Res.ok a).bind k = k a := rfl
@[simp] theorem bind_err {x : Er} {k : α → Res β} : (Res.err x).bind k = .err x := rfl
@[simp] theorem bind_bad {k : α → Res β} : (Res.bad).bind k = .bad := rfl
@[simp] theorem ne_ok {a : α} : (Res.ok a).ne = .ok a := rfl
@[simp] theorem bind_all {f : Addr → Res α} {k : α → Res β} : (Res.all f).bind k = .all fun q => (f q).bind k := rfl
theorem bind_bind {γ : Type} {k : α → Res β} {l : β → Res γ} : ∀ {m : Res α}, (m.bind k).bind l = m.bind fun a => (k a).bind l
  | .ok _ => rfl
  | .err _ => rfl
  | .bad => rfl
  | .all f => by
    show Res.all (fun q => ((f q).bind k).bind l) = Res.all fun q => (f q).bind fun a => (k a).bind l
    congr 1; funext q; exact bind_bind
theorem ob {k : α → Res β} {P : β → Prop} {E : Er → Prop} : ∀ {m : Res α}, (m.bind k).Out P E → m.Out (fun a => (k a).Out P E) E
  | .ok _, h => h
  | .err _, h => h
  | .bad, h => h
  | .all f, h => fun q => ob (m := f q) (h q)
theorem out_mono {P P' : α → Prop} {E E' : Er → Prop} : ∀ {m : Res α}, m.Out P E → (∀ a, P a → P' a) → (∀ x, E x → E' x) → m.Out P' E'
  | .ok _, h, hp, _ => hp _ h
  | .err _, h, _, he => he _ h
  | .bad, h, _, _ => h
  | .all f, h, hp, he => fun q => out_mono (m := f q) (h q) hp he
theorem ne_out {P : α → Prop} {E E' : Er → Prop} : ∀ {m : Res α}, m.ne.Out P E → m.Out P E'
  | .ok _, h => h
  | .err _, h => h.elim
  | .bad, h => h
  | .all f, h => fun q => ne_out (m := f q) (h q)
theorem cif {c : Bool} {A B : Res α} {P : α → Prop} {E : Er → Prop} (h : (cond c A B).Out P E) {X Y : Prop} (a : A.Out P E → X) (b : B.Out P E → Y) : (c = true → X) ∧ (c = false → Y) := by
  cases c with
  | true => exact ⟨fun _ => a h, fun z => nomatch z⟩
  | false => exact ⟨(fun z => nomatch z), fun _ => b h⟩
/-- a condition that must hold -/
@[irreducible] def guard (c : Prop) [Decidable c] (a : α) : Res α := if c then .ok a else .bad
theorem gd {c : Prop} [Decidable c] {a : α} {P : α → Prop} {E : Er → Prop} (h : (guard c a).Out P E) : c ∧ P a := by
  unfold guard at h
  split at h
  · exact ⟨‹_›, h⟩
  · exact h.elim
theorem guard_ok {c : Prop} [Decidable c] {a : α} (h : c) : guard c a = .ok a := by unfold guard; exact if_pos h
/-! loops -/
def Ctl.go (k : σ → Res (Ctl σ ρ)) : Ctl σ ρ → Res (Ctl σ ρ)
  | .nx s => k s
  | .bk s => .ok (.nx s)
  | .rt r => .ok (.rt r)
def Ctl.fin (k : σ → Res β) (r : ρ → Res β) : Ctl σ ρ → Res β
  | .nx s => k s
  | .bk s => k s
  | .rt x => r x
def forR (f : σ → α → Res (Ctl σ ρ)) : List α → σ → Res (Ctl σ ρ)
  | [], s => .ok (.nx s)
  | x :: xs, s => (f s x).bind (Ctl.go (forR f xs))
def foldR (f : σ → α → Res σ) : List α → σ → Res σ
  | [], s => .ok s
  | x :: xs, s => (f s x).bind (foldR f xs)
@[simp] theorem foldR_nil {f : σ → α → Res σ} {s : σ} : foldR f [] s = .ok s := rfl
@[simp] theorem foldR_cons {f : σ → α → Res σ} {s : σ} {x : α} {xs : List α} : foldR f (x :: xs) s = (f s x).bind (foldR f xs) := rfl
@[simp] theorem forR_nil {f : σ → α → Res (Ctl σ ρ)} {s : σ} : forR f [] s = .ok (.nx s) := rfl
@[simp] theorem forR_cons {f : σ → α → Res (Ctl σ ρ)} {s : σ} {x : α} {xs : List α} : forR f (x :: xs) s = (f s x).bind (Ctl.go (forR f xs)) := rfl
@[simp] theorem go_nx {k : σ → Res (Ctl σ ρ)} {s : σ} : Ctl.go k (.nx s) = k s := rfl
@[simp] theorem go_bk {k : σ → Res (Ctl σ ρ)} {s : σ} : Ctl.go k (.bk s) = .ok (.nx s) := rfl
@[simp] theorem go_rt {k : σ → Res (Ctl σ ρ)} {r : ρ} : Ctl.go k (.rt r) = .ok (.rt r) := rfl
@[simp] theorem fin_nx {k : σ → Res β} {r : ρ → Res β} {s : σ} : Ctl.fin k r (.nx s) = k s := rfl
@[simp] theorem fin_bk {k : σ → Res β} {r : ρ → Res β} {s : σ} : Ctl.fin k r (.bk s) = k s := rfl
@[simp] theorem fin_rt {k : σ → Res β} {r : ρ → Res β} {x : ρ} : Ctl.fin k r (.rt x) = r x := rfl
def compL (f : α → Res (Option β)) : List α → Res (List β)
  | [] => .ok []
  | x :: xs => (f x).bind fun o => (compL f xs).bind fun r => .ok (o.toList ++ r)
def compR (f : α → Res (Option β)) (xs : List α) : Res (List β) := if xs.length ≤ sizeLine then (compL f xs).ne else .bad
def andR (a b : Res Bool) : Res Bool := a.bind fun t => cond t b (.ok false)
def orR (a b : Res Bool) : Res Bool := a.bind fun t => cond t (.ok true) b
def notR (a : Res Bool) : Res Bool := a.bind fun t => .ok (!t)
@[simp] theorem andR_ok {a : Bool} {b : Res Bool} : andR (.ok a) b = cond a b (.ok false) := rfl
@[simp] theorem orR_ok {a : Bool} {b : Res Bool} : orR (.ok a) b = cond a (.ok true) b := rfl
@[simp] theorem notR_ok {a : Bool} : notR (.ok a) = .ok (!a) := rfl
@[simp] theorem cond_ok {c : Bool} {a b : α} : (cond c (Res.ok a) (.ok b)) = .ok (cond c a b) := by cases c <;> rfl
end

/-! ### values of types -/
abbrev lstD {α : Type} (e : α → Dat) (xs : List α) : Dat := .lst (xs.map e)
abbrev vtpD {α : Type} (e : α → Dat) (xs : List α) : Dat := .tup (xs.map e)
abbrev pairD {α β : Type} (e : α → Dat) (f : β → Dat) (p : α × β) : Dat := .tup [e p.1, f p.2]
abbrev optD {α : Type} (e : α → Dat) : Option α → Dat
  | none => .non
  | some x => e x
abbrev untD (_ : Unit) : Dat := .non
/-- a sign as a text -/
abbrev chS (c : Nat) : Str := ⟨#[c]⟩
abbrev chD (c : Nat) : Dat := .str (chS c)
abbrev signsL (z : Str) : List Nat := z.cps.toList
def rangeL (lo : Int) (n : Nat) : List Int := (List.range n).map fun (i : Nat) => lo + (i : Int)
def rangeC (lo c : Int) (n : Nat) : List Int := (List.range n).map fun (i : Nat) => lo + (i : Int) * c
def enumL {α : Type} (xs : List α) : List (Int × α) := xs.zipIdx.map fun q => ((q.2 : Int), q.1)
theorem rngD_map {lo : Int} {n : Nat} : rngD lo n = (rangeL lo n).map Dat.int := by simp [rngD, rangeL]
theorem rngC_map {lo c : Int} {n : Nat} : rngC lo c n = (rangeC lo c n).map Dat.int := by simp [rngC, rangeC]
theorem enuD_map {α : Type} {e : α → Dat} {xs : List α} : enuD (xs.map e) = (enumL xs).map (pairD Dat.int e) := by
  simp [enuD, enumL, List.zipIdx_map, Function.comp_def]
/-! ### operations that want something -/
def small62 (j : Int) : Prop := -(2 ^ 62) ≤ j ∧ j < 2 ^ 62
instance {j : Int} : Decidable (small62 j) := inferInstanceAs (Decidable (_ ∧ _))
def pdiv (i j : Int) : Res Int := guard (0 < j ∧ j.natAbs.log2 < 9000) (i / j)
def pmul (i j : Int) : Res Int := guard (i.natAbs.log2 + j.natAbs.log2 < 1000000) (i * j)
def pcat (a b : Str) : Res Str := guard (a.length + b.length ≤ sizeLine) (a ++ b)
def pcatL {α : Type} (a b : List α) : Res (List α) := guard (a.length + b.length ≤ sizeLine) (a ++ b)
def prepS (z : Str) (n : Int) : Res Str := guard ((-(2 ^ 63) ≤ n ∧ n < 2 ^ 63) ∧ z.length * n.toNat ≤ sizeLine) (repS z n)
def pix {α : Type} (xs : List α) (i : Int) : Res α := match atI xs i with | some x => .ok x | none => .bad
def pixS (z : Str) (i : Int) : Res Nat := if z.length ≤ sizeLine then pix (signsL z) i else .bad
def pslS (z : Str) (lo hi : Option Int) : Res Str := guard (z.length ≤ sizeLine) (cutS z lo hi)
def plenS (z : Str) : Res Int := guard (z.length ≤ sizeLine) (z.length : Int)
def papp {α : Type} (xs : List α) (x : α) : Res (List α) := guard (xs.length < sizeLine) (xs ++ [x])
section
variable {X : Cx} {T : Bool} {τ : TEnv} {M A B : Mem} {P : PK'} {E : XKx} {e a b c o : Expr} {es : List Expr} {pos p apos tpos : Pos} {α β σ ρ : Type} {E1 : Er → Prop} {q : Addr}
theorem r_div {i j : Int} {Q : Int → Prop} (h : (pdiv i j).Out Q E1) (hk : ∀ z, Q z → P (.int z) M) : OP X T (binaryOp .FloorDiv) (.int i) (.int j) M P := o_div (gd h).1 (hk _ (gd h).2)
theorem r_mul {i j : Int} {Q : Int → Prop} (h : (pmul i j).Out Q E1) (hk : ∀ z, Q z → P (.int z) M) : OP X T (binaryOp .Mult) (.int i) (.int j) M P := o_mul (gd h).1 (hk _ (gd h).2)
theorem r_cat {i j : Str} {Q : Str → Prop} (h : (pcat i j).Out Q E1) (hk : ∀ z, Q z → P (.str z) M) : OP X T (binaryOp .Add) (.str i) (.str j) M P := o_cat (gd h).1 (hk _ (gd h).2)
theorem r_catL (f : α → Dat) {xs ys : List α} {Q : List α → Prop} (h : (pcatL xs ys).Out Q E1) (hk : ∀ z, Q z → P (lstD f z) M) : OP X T (binaryOp .Add) (lstD f xs) (lstD f ys) M P :=
  o_catL (by rw [List.length_map, List.length_map]; exact (gd h).1) (by rw [← List.map_append]; exact hk _ (gd h).2)
theorem r_repS {z : Str} {n : Int} {Q : Str → Prop} (h : (prepS z n).Out Q E1) (hk : ∀ z, Q z → P (.str z) M) : OP X T (binaryOp .Mult) (.str z) (.int n) M P := o_repS (gd h).1.1 (gd h).1.2 (hk _ (gd h).2)
theorem pix_out {xs : List α} {i : Int} {Q : α → Prop} (h : (pix xs i).Out Q E1) : ∃ x, atI xs i = some x ∧ Q x := by
  unfold pix at h
  cases e : atI xs i with
  | some x => rw [e] at h; exact ⟨x, rfl, h⟩
  | none => rw [e] at h; exact h.elim
theorem atI_map {f : α → β} {xs : List α} {i : Int} {x : α} (h : atI xs i = some x) : atI (xs.map f) i = some (f x) := by
  unfold atI at h ⊢
  rw [List.length_map]
  cases e : ixN xs.length i with
  | none => rw [e] at h; cases h
  | some j => rw [e] at h; simp only [Option.bind_some] at h ⊢; rw [List.getElem?_map, h]; rfl
theorem r_ix {K : PySem.W.Frag} (f : α → Dat) {xs : List α} {i : Int} {Q : α → Prop} (h : (pix xs i).Out Q E1) (hk : ∀ z, Q z → P (f z) M) : IQ K (lstD f xs) (.int i) M P :=
  let ⟨x, h1, h2⟩ := pix_out h; i_lst (atI_map h1) (hk x h2)
theorem r_ixS {K : PySem.W.Frag} {z : Str} {i : Int} {Q : Nat → Prop} (h : (pixS z i).Out Q E1) (hk : ∀ c, Q c → P (chD c) M) : IQ K (.str z) (.int i) M P := by
  unfold pixS at h
  split at h
  · obtain ⟨x, h1, h2⟩ := pix_out h
    exact i_str ‹_› h1 (hk x h2)
  · exact h.elim
theorem r_slS {z : Str} {lo hi : Option Int} {Q : Str → Prop} (h : (pslS z lo hi).Out Q E1) (hk : ∀ z, Q z → P (.str z) M) : SQ X (.str z) lo hi M P := l_str (gd h).1 (hk _ (gd h).2)
theorem cutD_map {f : α → β} {xs : List α} {lo hi : Option Int} : cutD (xs.map f) lo hi = (cutD xs lo hi).map f := by
  unfold cutD; rw [List.length_map, List.map_take, List.map_drop]
theorem l_lstT (f : α → Dat) {xs : List α} {lo hi : Option Int} (h : P (lstD f (cutD xs lo hi)) M) : SQ X (lstD f xs) lo hi M P := l_lst (by rw [cutD_map]; exact h)
theorem l_scrT {xs : List Int} {lo hi : Option Int} (h : P (lstD Dat.int (cutD xs lo hi)) M) : SQ X (.scr xs) lo hi M P := l_scr h
theorem c_lenT (f : α → Dat) {xs : List α} (h : P (.int xs.length) M) : BC X (.builtin "len") [lstD f xs] M P := c_len_lst (by rw [List.length_map]; exact h)
theorem c_lenV (f : α → Dat) {xs : List α} (h : P (.int xs.length) M) : BC X (.builtin "len") [vtpD f xs] M P := c_len_tup (by rw [List.length_map]; exact h)
theorem r_lenS {z : Str} {Q : Int → Prop} (h : (plenS z).Out Q E1) (hk : ∀ z, Q z → P (.int z) M) : BC X (.builtin "len") [.str z] M P := c_len_str (gd h).1 (hk _ (gd h).2)
theorem c_minT {i j : Int} (h : P (.int (min i j)) M) (hc : X.calm = true := by rfl) : BC X (.builtin "min") [.int i, .int j] M P := c_min hc (by
  have e : (if j < i then j else i) = min i j := by omega
  rw [e]; exact h)
theorem c_maxT {i j : Int} (h : P (.int (max i j)) M) (hc : X.calm = true := by rfl) : BC X (.builtin "max") [.int i, .int j] M P := c_max hc (by
  have e : (if j > i then j else i) = max i j := by omega
  rw [e]; exact h)
theorem c_sumT {ns : List Int} (h : P (.int ns.sum) M) (hc : X.calm = true := by rfl) : BC X (.builtin "sum") [lstD Dat.int ns] M P := c_sum hc rfl h
theorem c_listV (f : α → Dat) {xs : List α} (h : P (lstD f xs) M) : BC X (.type "list") [vtpD f xs] M P := c_list_tup h
theorem c_tupT (f : α → Dat) {xs : List α} (h : P (vtpD f xs) M) : BC X (.type "tuple") [lstD f xs] M P := c_tuple_lst h
theorem hst_put {K : PySem.W.Frag} {G H H2 : Hp} {c' : MC} {c : MC} (h : Hst K G (A ++ (q, c) :: B) H) (hc : adr1 (q, c) = adr1 (q, c')) (hk : ∀ b, b ≠ q → H2 b = H b) (hn : MH K G H2 (q, c')) :
    Stp G (A ++ (q, c) :: B) H G (A ++ (q, c') :: B) H2 ∧ Hst K G (A ++ (q, c') :: B) H2 := cell_put h hc (by cases c <;> simp [adr1]) hk hn
theorem b_app (A : Mem) (f : α → Dat) {xs : List α} {x : α} {Q : List α → Prop} (h : (papp xs x).Out Q E1) (hk : ∀ ys, Q ys → P .non (A ++ (q, .lst (ys.map f)) :: B)) : BMr X "list.append" (.raw (.ref q)) [f x] (A ++ (q, .lst (xs.map f)) :: B) P := by
  obtain ⟨hl, hq⟩ := gd h
  refine ⟨rAppend, mt_append, fun G H v vs hH dv dvs Q hP => ?_⟩
  obtain ⟨u, r, rfl, du, t⟩ := dvs.cons_inv
  obtain rfl := t.nil_inv
  obtain ⟨ys, g, dx⟩ := hH.mem _ (List.mem_append_right _ List.mem_cons_self)
  rw [dv.raw_inv]
  obtain ⟨s2, h2⟩ := hst_put (c' := .lst ((xs ++ [x]).map f)) (H2 := upd H q (.lst (ys ++ [u]))) hH rfl (fun b hb => upd_ne hb) ⟨_, upd_same, by rw [List.map_append]; exact dx.snoc du⟩
  exact ⟨q, ys, u, rfl, rfl, g, by rw [dx.length, List.length_map]; exact hl, hP _ _ _ _ _ (hk _ hq) s2 h2 den_non⟩
theorem r_app (A : Mem) (f : α → Dat) {xs : List α} (h : EX X T o τ M (fun d M1 => d = .raw (.ref q) ∧ M1 = A ++ (q, .lst (xs.map f)) :: B ∧ EA X T (e :: es) τ M1 (fun ds M2 => BMr X "list.append" d ds M2 P) E) E)
    (hbase : attributeBase o "append" X.env (eval o X.env) = eval o X.env := by rfl)
    (hfew : ((backTo tpos (starEach (e :: es) X.env)).all (fun x => !x.1) && (backToKw tpos (keywordEach [] X.env)).all (fun x => x.1.isSome) && decide ((e :: es).length + ([] : List Keyword).length + (if ([] : List Keyword).isEmpty then 0 else 1) < 30)) = true := by rfl)
    (hline : (apos.endLine == tpos.line) = true := by rfl) (hs : starEach (e :: es) X.env = (false, eval e X.env) :: starEach es X.env := by rfl) (hplain : (backTo tpos (starEach es X.env)).any (·.1) = false := by rfl) :
    EX X T (.Call (.Attribute o "append" apos) (e :: es) [] tpos) τ M P E := ex_append (h.imp (fun d M1 ⟨e1, e2, e3⟩ => ⟨by rw [e1, e2]; exact .cell (List.mem_append_right _ List.mem_cons_self), e3⟩) fun _ _ x => x) hbase hfew hline hs hplain
/-! calls -/
theorem outU {m : Res α} {f : α → Dat} {ex : Er → Exn} {Q : α → Prop} (h : m.Out Q E1) (hk : ∀ r, Q r → P (f r) M) (hx : ∀ x, E1 x → E (ex x) M) : m.Out (fun r => UpP P (f r) M) (fun x => UpP E (ex x) M) :=
  out_mono h (fun r q => UpP.mk (hk r q)) fun x q => UpP.mk (hx x q)
end

/-! ### a def's ends: what it made itself is left behind -/
def retD (P : PK') (E : XKx) : RK
  | .rt d, M => ∃ A B, M.Perm (A ++ B) ∧ P d A
  | .nx _, M => ∃ A B, M.Perm (A ++ B) ∧ P .non A
  | .ex x _, M => ∃ A B, M.Perm (A ++ B) ∧ E x A
  | _, _ => False
theorem csD {K : PySem.W.Frag} {G H : Hp} {M : Mem} {P : PK'} {E : XKx} {D : Ends} {W : WX} (h : CS' K G M H (retR P E) D W) : CS' K G M H (retD P E) D W := fun o M2 G2 H2 r s h2 => by
  cases o with
  | nx τ => obtain ⟨A, B, pm, r⟩ := r; exact h (.nx τ) A G2 H2 r (s.perm (List.Perm.refl _) pm).drop (h2.perm pm).drop
  | rt d => obtain ⟨A, B, pm, r⟩ := r; exact h (.rt d) A G2 H2 r (s.perm (List.Perm.refl _) pm).drop (h2.perm pm).drop
  | ex x τ => obtain ⟨A, B, pm, r⟩ := r; exact h (.ex x τ) A G2 H2 r (s.perm (List.Perm.refl _) pm).drop (h2.perm pm).drop
  | bk τ => exact r.elim
  | ct τ => exact r.elim
theorem WS.ends {X : Cx} {T : Bool} {τ : TEnv} {M : Mem} {P : PK'} {E : XKx} {ss : List Stmt} (h : WS X T ss τ M (retD P E)) : WS X T ss τ M (retR P E) := .mk fun W tk σ G H hE hH D hR => h.run W tk σ G H hE hH D (csD hR)
/-- dropped at an end: the cells L, made here -/
theorem dN {M : Mem} (L : Mem) {d : Dat} {P : PK'} (h : P d M) : ∃ A B, (L ++ M).Perm (A ++ B) ∧ P d A := ⟨M, L, List.perm_append_comm, h⟩
theorem dX {M : Mem} (L : Mem) {x : Exn} {E : XKx} (h : E x M) : ∃ A B, (L ++ M).Perm (A ++ B) ∧ E x A := ⟨M, L, List.perm_append_comm, h⟩

/-! ### ifs and loops by what they compute -/
section
variable {X : Cx} {T : Bool} {τ : TEnv} {M : Mem} {P : PK'} {E : XKx} {t e iter tg : Expr} {p q body rest : List Stmt} {pos : Pos} {α β σ ρ : Type} {E1 : Er → Prop} {R : RK}
/-- a value by itself, its reading goes on behind it -/
theorem exJ {m : Res α} (f : α → Dat) {Q : α → Prop} (h : m.Out Q E1) (he : m.Out Q E1 → EX X T e τ M (fun d M1 => M1 = M ∧ ∃ v, d = f v ∧ Q v) E) (hk : ∀ v, Q v → P (f v) M) : EX X T e τ M P E :=
  (he h).imp (fun d M1 ⟨e1, v, e2, q⟩ => by rw [e1, e2]; exact hk v q) fun _ _ x => x
theorem etJ {m : Res Bool} {Q : Bool → Prop} {Pb : Bool → Mem → Prop} (h : m.Out Q E1) (he : m.Out Q E1 → ET X T e τ M (fun k M1 => M1 = M ∧ Q k) E) (hk : ∀ v, Q v → Pb v M) : ET X T e τ M Pb E :=
  (he h).imp (fun k M1 ⟨e1, q⟩ => by rw [e1]; exact hk k q) fun _ _ x => x
theorem ws_ifJ {m : Res σ} {Q : σ → Prop} (JJ : (σ → Prop) → TEnv → Mem → Prop) (h : m.Out Q E1)
    (hif : m.Out Q E1 → ET X T t τ M (fun k M1 => (k = true → WS X T p τ M1 (thenR (JJ Q) R)) ∧ (k = false → WS X T q τ M1 (thenR (JJ Q) R))) (fun x M1 => R (.ex x τ) M1))
    (hk : ∀ τ' M', JJ Q τ' M' → WS X T rest τ' M' R) : WS X T (.If t p q pos :: rest) τ M R :=
  ws_if ((hif h).imp (fun k M1 ⟨h1, h2⟩ => ⟨fun e => (h1 e).imp fun o M2 r => by cases o <;> first | exact hk _ _ r | exact r, fun e => (h2 e).imp fun o M2 r => by cases o <;> first | exact hk _ _ r | exact r⟩) fun _ _ x => x)
/-- what a loop over ds wants; what a comprehension over ds wants -/
def ForQ (X : Cx) (T : Bool) (tg : Expr) (body rest : List Stmt) (τ : TEnv) (R : RK) (ds : List Dat) (M1 : Mem) (Ok : Mem → Prop) : Prop :=
  ∃ I : Nat → TEnv → Mem → Prop, I 0 τ M1 ∧ (∀ i τ M, I i τ M → Ok M) ∧
      (∀ i d τ M, ds[i]? = some d → I i τ M → GX X T tg d τ M (fun τ2 M2 => WS X T body τ2 M2 (loopR (I (i + 1)) (fun τ M => WS X T rest τ M R) R)) (fun x M2 => R (.ex x τ) M2)) ∧
      (∀ τ M, I ds.length τ M → WS X T rest τ M R)
def LcQ (X : Cx) (scope : Scope) (vs : List Nat) (tg : Expr) (ifs : List Expr) (elt : Expr) (τ : TEnv) (ds : List Dat) (M1 : Mem) (Ok : Mem → Prop) (P : PK') : Prop :=
  ds.length ≤ sizeLine ∧ ∃ I : Nat → List Dat → Mem → Prop, I 0 [] M1 ∧ (∀ i acc M, I i acc M → Ok M) ∧
      (∀ i d acc M, ds[i]? = some d → I i acc M → ∀ (s : Shared) (H : Hp) (C : Addr) (cl : List (Str × Addr)) (fp : List Addr), GC (Cx.Bk X scope s H C cl fp) vs tg d (wipeT τ vs) M (fun τ2 M2 => ∀ (s : Shared) (H : Hp) (C : Addr) (cl : List (Str × Addr)) (fp : List Addr),
        EFs (Cx.Bk X scope s H C cl fp) ifs τ2 M2 (fun b M3 => (b = true → ∀ (s : Shared) (H : Hp) (C : Addr) (cl : List (Str × Addr)) (fp : List Addr), EX (Cx.Bk X scope s H C cl fp) false elt τ2 M3 (fun y M4 => I (i + 1) (acc ++ [y]) M4) E0') ∧ (b = false → I (i + 1) acc M3)))) ∧
      (∀ acc M, I ds.length acc M → P (.lst acc) M)
theorem ws_forT (hi : EI X tg iter τ M (fun ds M1 Ok => ForQ X T tg body rest τ R ds M1 Ok) (fun x M1 => R (.ex x τ) M1))
    (hp : PassesOwn (model X.prog X.w) X.A X.env X.xe := by first | exact PassesOwn.never | exact passes_of rfl | assumption) (hc : X.calm = true := by rfl) (hs : ∀ x, foldedSetIterable iter X.env x = pure x := by intro _; rfl) : WS X T (.For tg iter body [] pos :: rest) τ M R := ws_for hi hp hc hs
theorem ex_lcT {scope : Scope} {ifs : List Expr} {elt : Expr} (own : List (Str × Nat)) (h : EI X tg iter τ M (fun ds M1 Ok => LcQ X scope (own.map (·.2)) tg ifs elt τ ds M1 Ok P) E)
    (ok : BlkOk X.N X.env.scope scope own := by exact blkOk_by (by first | decide +kernel | kernel_rfl)) (hN : X.N.Nodup := by first | decide +kernel | exact of_decide_eq_true (by kernel_rfl)) (hc : X.calm = true := by rfl) (hs : ∀ x, foldedSetIterable iter X.env x = pure x := by intro _; rfl) :
    EX X T (.ListComp elt [⟨tg, iter, ifs, 0⟩] scope pos) τ M P E := ex_lc own h ok hN hc hs
theorem ws_setLcT {x : Str} {px : Pos} {scope : Scope} {ifs : List Expr} {elt : Expr} {lpos : Pos} (own : List (Str × Nat)) (h : EI X tg iter τ M (fun ds M1 Ok => LcQ X scope (own.map (·.2)) tg ifs elt τ ds M1 Ok (fun d M => WS X T rest (τ.set (ixIn X.N x) (some d)) M R)) (fun x M1 => R (.ex x τ) M1))
    (hi : X.N[ixIn X.N x]? = some x := by rfl) (hyl : X.env.scope.names.lookup x = some .local := by rfl) (hsw : swapsWith (.ListComp elt [⟨tg, iter, ifs, 0⟩] scope lpos) (some (.Name x px)) pos.line X.env = pure true := by exact sw_true rfl rfl rfl (by first | decide +kernel | kernel_rfl))
    (ok : BlkOk X.N X.env.scope scope own := by exact blkOk_by (by first | decide +kernel | kernel_rfl)) (hN : X.N.Nodup := by first | decide +kernel | exact of_decide_eq_true (by kernel_rfl)) (hc : X.calm = true := by rfl) (hs : ∀ x, foldedSetIterable iter X.env x = pure x := by intro _; rfl) :
    WS X T (.Assign [.Name x px] (.ListComp elt [⟨tg, iter, ifs, 0⟩] scope lpos) pos :: rest) τ M R := ws_setLc own h hi hyl hsw ok hN hc hs
theorem GX.impP {X : Cx} {T : Bool} {tg : Expr} {d : Dat} {τ : TEnv} {M : Mem} {Pg Pg' : TEnv → Mem → Prop} {Eg : XKx} (hp : ∀ τ M, Pg τ M → Pg' τ M) (hg : GX X T tg d τ M Pg Eg) : GX X T tg d τ M Pg' Eg :=
  .mk fun W tk σ G H v hE hH dv Q hP hX => hg.run W tk σ G H v hE hH dv Q (fun τ2 M2 G2 H2 σ2 r => hP τ2 M2 G2 H2 σ2 (hp _ _ r)) hX
theorem GC.impP {X : Cx} {vs : List Nat} {tg : Expr} {d : Dat} {τ : TEnv} {M : Mem} {Pg Pg' : TEnv → Mem → Prop} (hp : ∀ τ M, Pg τ M → Pg' τ M) (hg : GC X vs tg d τ M Pg) : GC X vs tg d τ M Pg' :=
  fun σ G H v hE hH dv Q hQ => hg σ G H v hE hH dv Q fun τ' M' G' H' σ' r => hQ τ' M' G' H' σ' (hp _ _ r)
theorem foldT {xs : List α} (f : α → Dat) {g : σ → α → Res σ} {s0 : σ} {M1 : Mem} {Ok : Mem → Prop} (J : σ → TEnv → Mem → Prop) {Q : σ → Prop} (h : (foldR g xs s0).Out Q E1) (h0 : J s0 τ M1) (hOk : ∀ s τ M, J s τ M → Ok M)
    (step : ∀ x s τ M (N : σ → Prop), J s τ M → (g s x).Out N E1 → GX X T tg (f x) τ M (fun τ2 M2 => WS X T body τ2 M2 (loopR (fun τ M => ∃ s, J s τ M ∧ N s) (fun τ M => WS X T rest τ M R) R)) (fun x M2 => R (.ex x τ) M2))
    (fin : ∀ s τ M, J s τ M → Q s → WS X T rest τ M R) :
    ForQ X T tg body rest τ R (xs.map f) M1 Ok := by
  refine ⟨fun i τ M => ∃ s, J s τ M ∧ (foldR g (xs.drop i) s).Out Q E1, ⟨s0, h0, h⟩, fun i τ M ⟨s, h1, _⟩ => hOk s τ M h1, ?_, ?_⟩
  · rintro i d τ M hd ⟨s, h1, h2⟩
    rw [List.getElem?_map] at hd
    obtain ⟨x, hx, rfl⟩ := Option.map_eq_some_iff.mp hd
    obtain ⟨hi, rfl⟩ := List.getElem?_eq_some_iff.mp hx
    rw [List.drop_eq_getElem_cons hi] at h2
    exact step _ s τ M _ h1 (ob h2)
  · rintro τ M ⟨s, h1, h2⟩
    rw [List.length_map, List.drop_length] at h2
    exact fin s τ M h1 h2
theorem forT {xs : List α} (f : α → Dat) {g : σ → α → Res (Ctl σ ρ)} {s0 : σ} {M1 : Mem} {Ok : Mem → Prop} (J : σ → TEnv → Mem → Prop) {Q : Ctl σ ρ → Prop} (h : (forR g xs s0).Out Q E1) (h0 : J s0 τ M1) (hOk : ∀ s τ M, J s τ M → Ok M)
    (step : ∀ x s τ M (N : Ctl σ ρ → Prop), J s τ M → (g s x).Out N E1 → (∀ r, N (.rt r) → Q (.rt r)) → GX X T tg (f x) τ M (fun τ2 M2 => WS X T body τ2 M2 (loopR (fun τ M => ∃ s, J s τ M ∧ N (.nx s)) (fun τ M => ∃ s, J s τ M ∧ N (.bk s)) R)) (fun x M2 => R (.ex x τ) M2))
    (fin : ∀ s τ M, J s τ M → Q (.nx s) → WS X T rest τ M R) :
    ForQ X T tg body rest τ R (xs.map f) M1 Ok := by
  refine ⟨fun i τ M => ∃ s, J s τ M ∧ (forR g (xs.drop i) s).Out Q E1, ⟨s0, h0, h⟩, fun i τ M ⟨s, h1, _⟩ => hOk s τ M h1, ?_, ?_⟩
  · rintro i d τ M hd ⟨s, h1, h2⟩
    rw [List.getElem?_map] at hd
    obtain ⟨x, hx, rfl⟩ := Option.map_eq_some_iff.mp hd
    obtain ⟨hi, rfl⟩ := List.getElem?_eq_some_iff.mp hx
    rw [List.drop_eq_getElem_cons hi] at h2
    refine GX.impP (fun τ2 M2 hw => ?_) (step _ s τ M _ h1 (ob h2) fun r z => z)
    refine hw.imp fun o M3 r => ?_
    cases o with
    | nx τ3 => exact r
    | ct τ3 => exact r
    | bk τ3 => obtain ⟨s3, j3, q3⟩ := r; exact fin s3 τ3 M3 j3 q3
    | rt d => exact r
    | ex x τ3 => exact r
  · rintro τ M ⟨s, h1, h2⟩
    rw [List.length_map, List.drop_length] at h2
    exact fin s τ M h1 h2
/-- the tuple that a comprehension wants -/
theorem compT {xs : List α} (f : α → Dat) (f2 : β → Dat) {g : α → Res (Option β)} {M1 : Mem} {Ok : Mem → Prop} {vs : List Nat} {scope : Scope} {ifs : List Expr} {elt : Expr} {Q : List β → Prop} (h : (compR g xs).Out Q E1) (hOk : Ok M1)
    (step : ∀ x (N : Option β → Prop), (g x).Out N (fun _ => False) → ∀ (s : Shared) (H : Hp) (C : Addr) (cl : List (Str × Addr)) (fp : List Addr), GC (Cx.Bk X scope s H C cl fp) vs tg (f x) (wipeT τ vs) M1 (fun τ2 M2 => ∀ (s : Shared) (H : Hp) (C : Addr) (cl : List (Str × Addr)) (fp : List Addr),
        EFs (Cx.Bk X scope s H C cl fp) ifs τ2 M2 (fun b M3 => (b = true → ∀ (s : Shared) (H : Hp) (C : Addr) (cl : List (Str × Addr)) (fp : List Addr), EX (Cx.Bk X scope s H C cl fp) false elt τ2 M3 (fun y M4 => M4 = M1 ∧ ∃ v, y = f2 v ∧ N (some v)) E0') ∧ (b = false → M3 = M1 ∧ N none))))
    (fin : ∀ ys, Q ys → P (lstD f2 ys) M1) :
    LcQ X scope vs tg ifs elt τ (xs.map f) M1 Ok P := by
  unfold compR at h
  split at h
  case isFalse => exact h.elim
  rename_i hl
  have h : (compL g xs).Out Q (fun _ => False) := ne_out h
  refine ⟨by rw [List.length_map]; exact hl, fun i acc M => M = M1 ∧ ∃ ys : List β, acc = ys.map f2 ∧ (compL g (xs.drop i)).Out (fun r => Q (ys ++ r)) (fun _ => False), ⟨rfl, [], rfl, h⟩, fun i acc M ⟨e, _⟩ => by rw [e]; exact hOk, ?_, ?_⟩
  · rintro i d acc M hd ⟨rfl, ys, rfl, h2⟩ s H C cl fp
    rw [List.getElem?_map] at hd
    obtain ⟨x, hx, rfl⟩ := Option.map_eq_some_iff.mp hd
    obtain ⟨hi, rfl⟩ := List.getElem?_eq_some_iff.mp hx
    rw [List.drop_eq_getElem_cons hi] at h2
    refine GC.impP (fun τ2 M2 hw => ?_) (step _ _ (ob h2) s H C cl fp)
    intro s H C cl fp σ G H' hE hH Q' hQ
    refine hw s H C cl fp σ G H' hE hH Q' fun b M3 G3 H3 ⟨p1, p2⟩ s3 h3 => hQ b M3 G3 H3 ⟨fun eb s H C cl fp => ?_, fun eb => ?_⟩ s3 h3
    · refine (p1 eb s H C cl fp).imp (fun y M4 ⟨e4, v, ev, hv⟩ => ?_) fun _ _ x => x
      subst ev
      refine ⟨e4, ys ++ [v], by simp, ?_⟩
      have hv := ob hv
      refine out_mono hv (fun r q => ?_) fun _ z => z
      have : Q (ys ++ ((some v).toList ++ r)) := q
      simpa using this
    · obtain ⟨e3, hv⟩ := p2 eb
      refine ⟨e3, ys, rfl, ?_⟩
      exact out_mono (ob hv) (fun r q => by have : Q (ys ++ ((none : Option β).toList ++ r)) := q; simpa using this) fun _ z => z
  · rintro acc M ⟨rfl, ys, rfl, h2⟩
    rw [List.length_map, List.drop_length] at h2
    have : Q (ys ++ []) := h2
    rw [List.append_nil] at this
    exact fin ys this
end
/-! tests by what they compute -/
section
variable {X : Cx} {T : Bool} {τ : TEnv} {M : Mem} {E : XKx} {a b : Expr} {rest : List Expr} {pos : Pos} {E1 : Er → Prop} {Q : Bool → Prop}
theorem ewA {ma mb : Res Bool} (h : (andR ma mb).Out Q E1) (ha : ∀ Q', ma.Out Q' E1 → ET X T a τ M (fun k M1 => M1 = M ∧ Q' k) E) (hb : mb.Out Q E1 → EW X T (.BoolOp .And (b :: rest) pos) τ M (fun k M1 => M1 = M ∧ Q k) E) :
    EW X T (.BoolOp .And (a :: b :: rest) pos) τ M (fun k M1 => M1 = M ∧ Q k) E :=
  ew_and ((ha _ (ob h)).imp (fun k M1 ⟨e, q⟩ => by
    subst e
    cases k with
    | true => exact ⟨fun _ => hb q, fun z => nomatch z⟩
    | false => exact ⟨(fun z => nomatch z), fun _ => ⟨rfl, q⟩⟩) fun _ _ x => x)
theorem ewO {ma mb : Res Bool} (h : (orR ma mb).Out Q E1) (ha : ∀ Q', ma.Out Q' E1 → ET X T a τ M (fun k M1 => M1 = M ∧ Q' k) E) (hb : mb.Out Q E1 → EW X T (.BoolOp .Or (b :: rest) pos) τ M (fun k M1 => M1 = M ∧ Q k) E) :
    EW X T (.BoolOp .Or (a :: b :: rest) pos) τ M (fun k M1 => M1 = M ∧ Q k) E :=
  ew_or ((ha _ (ob h)).imp (fun k M1 ⟨e, q⟩ => by
    subst e
    cases k with
    | true => exact ⟨fun _ => ⟨rfl, q⟩, fun z => nomatch z⟩
    | false => exact ⟨(fun z => nomatch z), fun _ => hb q⟩) fun _ _ x => x)
theorem etN {ma : Res Bool} (h : (notR ma).Out Q E1) (ha : ∀ Q', ma.Out Q' E1 → ET X T a τ M (fun k M1 => M1 = M ∧ Q' k) E) : ET X T (.UnaryOp .Not a pos) τ M (fun k M1 => M1 = M ∧ Q k) E :=
  et_not ((ha _ (ob h)).imp (fun k M1 ⟨e, q⟩ => ⟨e, q⟩) fun _ _ x => x)
theorem exA {ma mb : Res Bool} (h : (andR ma mb).Out Q E1) (ha : ∀ Q', ma.Out Q' E1 → EX X T a τ M (fun d M1 => M1 = M ∧ ∃ k, d = .bl k ∧ Q' k) E) (hb : mb.Out Q E1 → EX X T (.BoolOp .And (b :: rest) pos) τ M (fun d M1 => M1 = M ∧ ∃ k, d = .bl k ∧ Q k) E) :
    EX X T (.BoolOp .And (a :: b :: rest) pos) τ M (fun d M1 => M1 = M ∧ ∃ k, d = .bl k ∧ Q k) E :=
  ex_and ((ha _ (ob h)).imp (fun d M1 ⟨e, k, ek, q⟩ => by
    subst e
    refine ⟨k, ek, ?_⟩
    cases k with
    | true => exact ⟨fun _ => hb q, fun z => nomatch z⟩
    | false => exact ⟨(fun z => nomatch z), fun _ => ⟨rfl, _, rfl, q⟩⟩) fun _ _ x => x)
end
end Kh

set_option Elab.async false
set_option linter.all false
set_option maxRecDepth 100000
set_option maxHeartbeats 1000000
namespace Kh
open PySem PySem.Spec L2

/-! ### data that is compared by its parts -/
structure PyE {α : Type} (e : α → Dat) [DecidableEq α] where
  ok : α → Bool
  py : α → PyData
  dep : Nat
  to : ∀ a, toPy (e a) = some (py a)
  lay : ∀ a, ok a = true → (py a).canLay0 = true
  dp : ∀ a, (py a).depth ≤ dep
  eqv : ∀ a b, PyData.eqv (py a) (py b) = decide (a = b)
def pyI : PyE Dat.int := ⟨fun _ => true, .int, 0, fun a => by simp [toPy], fun _ _ => by simp [PyData.canLay0], fun _ => by simp [PyData.depth], fun a b => by simp only [PyData.eqv]; rw [Bool.eq_iff_iff]; simp⟩
def pyN : PyE untD := ⟨fun _ => true, fun _ => .none, 0, fun a => by simp [toPy], fun _ _ => by simp [PyData.canLay0], fun _ => by simp [PyData.depth], fun a b => by simp [PyData.eqv]⟩
section
variable {α β γ : Type} {e : α → Dat} {f : β → Dat} {g : γ → Dat} [DecidableEq α] [DecidableEq β] [DecidableEq γ]
theorem toPyL_map (p : PyE e) : ∀ xs : List α, toPyL (xs.map e) = some (xs.map p.py)
  | [] => by simp [toPyL]
  | x :: xs => by simp [toPyL, p.to x, toPyL_map p xs]
theorem layL (p : PyE e) : ∀ xs : List α, xs.all p.ok = true → PyData.canLayAll0 (xs.map p.py) = true
  | [], _ => by simp [PyData.canLayAll0]
  | x :: xs, h => by
    rw [List.all_cons, Bool.and_eq_true] at h
    simp only [List.map_cons, PyData.canLayAll0, Bool.and_eq_true]
    exact ⟨p.lay x h.1, layL p xs h.2⟩
theorem depL (p : PyE e) : ∀ xs : List α, PyData.depthAll (xs.map p.py) ≤ p.dep
  | [] => by simp [PyData.depthAll]
  | x :: xs => by
    simp only [List.map_cons, PyData.depthAll]
    exact Nat.max_le.mpr ⟨p.dp x, depL p xs⟩
theorem eqvL (p : PyE e) : ∀ xs ys : List α, PyData.eqvAll (xs.map p.py) (ys.map p.py) = decide (xs = ys)
  | [], [] => by simp [PyData.eqvAll]
  | [], _ :: _ => by simp [PyData.eqvAll]
  | _ :: _, [] => by simp [PyData.eqvAll]
  | x :: xs, y :: ys => by
    simp only [List.map_cons, PyData.eqvAll, p.eqv, eqvL p xs ys]
    rw [Bool.eq_iff_iff]; simp
def pyL (p : PyE e) : PyE (lstD e) := ⟨fun xs => xs.all p.ok, fun xs => .list (xs.map p.py), p.dep + 1, fun xs => by simp [toPy, toPyL_map p], fun xs h => by simp only [PyData.canLay0]; exact layL p xs h, fun xs => by
  simp only [PyData.depth]; have := depL p xs; omega, fun xs ys => by simp only [PyData.eqv]; exact eqvL p xs ys⟩
def py2 (p : PyE e) (q : PyE f) : PyE (pairD e f) := ⟨fun x => p.ok x.1 && q.ok x.2, fun x => .tuple [p.py x.1, q.py x.2], max p.dep q.dep + 1, fun x => by simp [toPy, toPyL, p.to, q.to], fun x h => by
  rw [Bool.and_eq_true] at h; simp only [PyData.canLay0, PyData.canLayAll0, Bool.and_eq_true]; exact ⟨p.lay _ h.1, q.lay _ h.2, trivial⟩, fun x => by
  simp only [PyData.depth, PyData.depthAll]; have := p.dp x.1; have := q.dp x.2; omega, fun x y => by
  obtain ⟨a, b⟩ := x; obtain ⟨c, d⟩ := y; simp only [PyData.eqv, PyData.eqvAll, p.eqv, q.eqv]; rw [Bool.eq_iff_iff]; simp⟩
end
section
variable {X : Cx} {T : Bool} {τ : TEnv} {M A B : Mem} {P : PK'} {E : XKx} {a b c o e : Expr} {es : List Expr} {pos p apos tpos : Pos} {α β : Type} {E1 : Er → Prop} {q : Addr}
theorem PyE.shaped {α : Type} {e : α → Dat} [DecidableEq α] (p : PyE e) {a : α} (hd : p.dep ≤ 64) (h : p.ok a = true) : SeqAt.shaped (p.py a) = true := by
  unfold SeqAt.shaped
  rw [Bool.and_eq_true]
  exact ⟨p.lay a h, decide_eq_true (Nat.le_trans (p.dp a) hd)⟩
/-- whether two such data are equal; their texts must be texts -/
def peq {α : Type} [DecidableEq α] (ok : α → Bool) (a b : α) : Res Bool := guard (ok a = true ∧ ok b = true) (decide (a = b))
theorem r_eqD {α : Type} {e : α → Dat} [DecidableEq α] (p : PyE e) (a b : α) (hu : X.A.units + 64 < cLine) {Q : Bool → Prop} (h : (peq p.ok a b).Out Q E1) (hk : ∀ z, Q z → P (.bl z) M) (hd : p.dep ≤ 64 := by decide) : OP X T (compareOp .Eq) (e a) (e b) M P :=
  o_eqD (p.to a) (p.to b) (p.shaped hd (gd h).1.1) (p.shaped hd (gd h).1.2) hu (by rw [p.eqv]; exact hk _ (gd h).2)
theorem r_neD {α : Type} {e : α → Dat} [DecidableEq α] (p : PyE e) (a b : α) (hu : X.A.units + 64 < cLine) {Q : Bool → Prop} (h : (peq p.ok a b).Out Q E1) (hk : ∀ z, Q z → P (.bl (!z)) M) (hd : p.dep ≤ 64 := by decide) : OP X T (compareOp .NotEq) (e a) (e b) M P :=
  o_neD (p.to a) (p.to b) (p.shaped hd (gd h).1.1) (p.shaped hd (gd h).1.2) hu (by rw [p.eqv]; exact hk _ (gd h).2)
theorem o_isNT {α : Type} (e : α → Dat) (hn : ∀ a, (e a).isN = false ∧ ∀ u, e a ≠ .raw u) {x : Option α} (h : P (.bl x.isNone) M) : OP X T (compareOp .Is) (optD e x) .non M P := by
  cases x with
  | none => exact o_isN (fun u => by simp [optD]) h
  | some a => exact o_isN (fun u => (hn a).2 u) (by show P (.bl (e a).isN) M; rw [(hn a).1]; exact h)
theorem cifN {c : Bool} {A B : Res α} {P : α → Prop} {E : Er → Prop} (h : (cond c A B).Out P E) {X Y : Prop} (a : A.Out P E → X) (b : B.Out P E → Y) : ((!c) = true → Y) ∧ ((!c) = false → X) := by
  cases c with
  | true => exact ⟨(fun z => nomatch z), fun _ => a h⟩
  | false => exact ⟨fun _ => b h, fun z => nomatch z⟩
/-! walks -/
variable {iter tg : Expr} {PI' : List Dat → Mem → (Mem → Prop) → Prop}
theorem ei_rng1 (hm : X.mg "range" = none) (h : EX X false a τ M (fun d M1 => ∃ j, d = .int j ∧ small62 j ∧ PI' ((rangeL 0 j.toNat).map Dat.int) M1 anyM) E) (hg : Gl X "range" := by rfl) (hs : starEach [a] X.env = [(false, eval a X.env)] := by rfl) : EI X tg (.Call (.Name "range" p) [a] [] pos) τ M PI' E :=
  ei_range1 hm (h.imp (fun d M1 ⟨j, e, hj, hp⟩ => ⟨j, e, hj, by rw [rngD_map]; exact hp⟩) fun _ _ x => x) hg hs
theorem ei_rng2 (hm : X.mg "range" = none) (h : EX X false a τ M (fun d M1 => EX X false b τ M1 (fun d2 M2 => ∃ i j, d = .int i ∧ d2 = .int j ∧ (small62 i ∧ small62 j) ∧ PI' ((rangeL i (j - i).toNat).map Dat.int) M2 anyM) E) E) (hg : Gl X "range" := by rfl)
    (hs : starEach [a, b] X.env = [(false, eval a X.env), (false, eval b X.env)] := by rfl) (hs2 : starEach [b] X.env = [(false, eval b X.env)] := by rfl) : EI X tg (.Call (.Name "range" p) [a, b] [] pos) τ M PI' E :=
  ei_range2 hm (h.imp (fun d M1 h1 => h1.imp (fun d2 M2 ⟨i, j, e1, e2, ⟨h1, h2⟩, hp⟩ => ⟨i, j, e1, e2, ⟨h1.1, h1.2, h2.1, h2.2⟩, by rw [rngD_map]; exact hp⟩) fun _ _ x => x) fun _ _ x => x) hg hs hs2
/-- a range upwards by a step -/
def rng3ok (i j c : Int) : Prop := (small62 i ∧ small62 j) ∧ 0 < c ∧ c < 1073741824
instance {i j c : Int} : Decidable (rng3ok i j c) := inferInstanceAs (Decidable (_ ∧ _))
theorem ei_enumT (f : α → Dat) {elts : List Expr} {kk : Nat} {tpos : Pos} (hm : X.mg "enumerate" = none) (h : EX X false e τ M (fun d M1 => ∃ xs : List α, d = lstD f xs ∧ PI' ((enumL xs).map (pairD Dat.int f)) M1 anyM) E) (hg : Gl X "enumerate" := by rfl) (hs : starEach [e] X.env = [(false, eval e X.env)] := by rfl) :
    EI X (.Tuple elts kk tpos) (.Call (.Name "enumerate" p) [e] [] pos) τ M PI' E :=
  ei_enum hm (h.imp (fun d M1 ⟨xs, e, hp⟩ => ⟨xs.map f, e, by rw [enuD_map]; exact hp⟩) fun _ _ x => x) hg hs
/-! cells -/
/-! calls with a cell, of defs that give a new list -/
variable {k : Nat} {f : Addr} {fd : FuncData} {ps : List Str} {S : Spc} {x qual : Str} {st : Stmt}
theorem finO {σ ρ β : Type} {k : σ → Res β} {r : ρ → Res β} {s : σ} {P : β → Prop} {E : Er → Prop} (h : (Ctl.fin k r (.nx s)).Out P E) : (k s).Out P E := h
end
end Kh

set_option Elab.async false
set_option linter.all false
set_option maxRecDepth 100000
set_option maxHeartbeats 1000000
namespace Kh
open PySem PySem.Spec L2
open PyProof.Rows (Compare_chain isTrue_chain chain_link chain_last test_link test_last)
/-! ### a op b op' c .. -/
structure TCh (X : Cx) (T : Bool) (pos : Pos) (ops : List CmpOp) (es : List Expr) (x : Dat) (τ : TEnv) (M : Mem) (P : Bool → Mem → Prop) (E : XKx) : Prop where
  run : ∀ W, Takes X W → ∀ σ G H v, DenE X.K τ G σ → Hst X.K G M H → Den X.K G x v → ∀ Q, CT' X.K G M H P Q → CX' X.K G M H E (fun c d H2 => W c d σ H2) →
    ∀ pins s u, Tk T s → Inv X pins σ H s → RelV v u → wpAny (model X.prog X.w) X.A (testChain pos u ops (evalEach es X.env)) (TP X pins σ Q) X.xe s
section
variable {X : Cx} {T : Bool} {τ : TEnv} {M : Mem} {P : PK'} {E : XKx} {a r r' : Expr} {rs : List Expr} {op op' : CmpOp} {ops : List CmpOp} {pos : Pos} {x : Dat} {Pb : Bool → Mem → Prop}
theorem et_chain (h : EX X T a τ M (fun x M1 => TCh X T pos (op :: op' :: ops) (r :: r' :: rs) x τ M1 Pb E) E) (hm : lastMarks (op :: op' :: ops) (r :: r' :: rs) = false := by with_unfolding_all rfl) :
    ET X T (.Compare a (op :: op' :: ops) (r :: r' :: rs) pos) τ M Pb E := .mk fun W tk σ G H hE hH Q hP hX pins s k I => by
  have hA := h.run W tk σ G H hE hH (fun v H1 => ∀ pins s u, Tk T s → Inv X pins σ H1 s → RelV v u → wpAny (model X.prog X.w) X.A (testChain pos u (op :: op' :: ops) (evalEach (r :: r' :: rs) X.env)) (TP X pins σ Q) X.xe s)
    (fun d M1 v G1 H1 hc s1 h1 dv => hc.run W tk σ G1 H1 v (hE.up s1.gg) h1 dv Q (hP.step s1) (hX.step s1)) hX
  exact isTrue_chain (thnT k (hA pins s k I) fun u s1 k1 ⟨v, H1, I1, r1, q⟩ => q pins s1 u k1 I1 r1) hm
theorem tch_link (h : EX X T r τ M (fun y M1 => OP X T (compareOp op) x y M1 (fun d M2 => ∃ k, d = .bl k ∧ ((k = true → TCh X T pos (op' :: ops) (r' :: rs) y τ M2 Pb E) ∧ (k = false → Pb false M2)))) E) : TCh X T pos (op :: op' :: ops) (r :: r' :: rs) x τ M Pb E := .mk fun W tk σ G H v hE hH dx Q hP hX pins s u k I rx => by
  have hA := h.run W tk σ G H hE hH (fun y H1 => rW X T (compareOp op) v y H1 (fun z H3 => ∃ b, z = .bl b ∧ if b = true then (∀ pins s u2, Tk T s → Inv X pins σ H3 s → RelV y u2 → wpAny (model X.prog X.w) X.A (testChain pos u2 (op' :: ops) (evalEach (r' :: rs) X.env)) (TP X pins σ Q) X.xe s) else Q false H3))
    (fun d M1 y G1 H1 ho s1 h1 dy => ho G1 H1 v y h1 (dx.up s1.gg) dy _ (fun d M2 z G2 H2 ⟨b, eb, h2, h3⟩ s2 hs2 dz => by
      subst eb
      refine ⟨b, dz.bl_inv, ?_⟩
      cases b with
      | true => exact iteT ((h2 rfl).run W tk σ G2 H2 y (hE.up (s1.trans s2).gg) hs2 (dy.up s2.gg) Q (hP.step (s1.trans s2)) (hX.step (s1.trans s2)))
      | false => exact iteF (hP _ _ _ _ (h3 rfl) (s1.trans s2) hs2))) hX
  refine test_link (thnT k (hA pins s k I) fun u2 s1 k1 ⟨y, H1, I1, r1, q⟩ => thnT k1 (q pins s1 σ u u2 k1 I1 rx r1) fun cv s2 k2 ⟨z, H2, I2, r2, b, eb, q2⟩ => ?_)
  subst eb
  cases r2
  refine wpAny_truthy_bool ?_
  cases b with
  | true => exact iteT (q2 pins s2 u2 k2 I2 r1)
  | false => exact iteF ⟨H2, I2, q2⟩
theorem tch_last (h : EX X T r τ M (fun y M1 => OP X T (compareOp op) x y M1 (fun d M2 => ∃ k, d = .bl k ∧ Pb k M2)) E) : TCh X T pos [op] [r] x τ M Pb E := .mk fun W tk σ G H v hE hH dx Q hP hX pins s u k I rx => by
  have hA := h.run W tk σ G H hE hH (fun y H1 => rW X T (compareOp op) v y H1 (fun z H3 => ∃ b, z = .bl b ∧ Q b H3))
    (fun d M1 y G1 H1 ho s1 h1 dy => ho G1 H1 v y h1 (dx.up s1.gg) dy _ (fun d M2 z G2 H2 ⟨b, eb, h2⟩ s2 hs2 dz => by
      subst eb
      exact ⟨b, dz.bl_inv, hP _ _ _ _ h2 (s1.trans s2) hs2⟩)) hX
  refine test_last (thnT k (hA pins s k I) fun u2 s1 k1 ⟨y, H1, I1, r1, q⟩ => thn (q pins s1 σ u u2 k1 I1 rx r1) fun cv s2 ⟨z, H2, I2, r2, b, eb, q2⟩ => ?_)
  subst eb
  cases r2
  exact wpAny_truthy_bool ⟨H2, I2, q2⟩
end
end Kh

set_option Elab.async false
set_option linter.all false
set_option maxRecDepth 100000
set_option maxHeartbeats 1000000
namespace Kh
open PySem PySem.Spec L2
/-! ### enumerate(a text) -/
section
variable {prog : Program} {w : World} {A : Around} {E : Value → Shared → Prop} {s : Shared}
end
section
variable {X : Cx} {T : Bool} {τ : TEnv} {M A B : Mem} {P : PK'} {E : XKx} {e a b c o : Expr} {es : List Expr} {pos p apos tpos : Pos} {α β σ ρ : Type} {E1 : Er → Prop} {q : Addr} {ss : List Stmt} {R : RK} {PI' : List Dat → Mem → (Mem → Prop) → Prop} {tg : Expr}
theorem rng3_RgC {i j c : Int} (h : rng3ok i j c) : RgC i j c ((j - i + c - 1) / c).toNat := by
  obtain ⟨⟨⟨h1, h2⟩, h3, h4⟩, h5, h6⟩ := h
  have e1 : j - i + c - 1 = (j - i - 1) + 1 * c := by omega
  have hs : Builtin.Range.rangeSize i j c = (((j - i + c - 1) / c).toNat : Int) := by
    unfold Builtin.Range.rangeSize
    rw [if_pos (by omega), e1, Int.add_mul_ediv_right _ _ (by omega)]
    split
    · have := Int.ediv_nonneg (a := j - i - 1) (b := c) (by omega) (by omega)
      omega
    · have := Int.ediv_neg_of_neg_of_pos (a := j - i - 1) (b := c) (by omega) (by omega)
      omega
  refine ⟨by omega, by omega, ?_, hs⟩
  have hn : (((j - i + c - 1) / c).toNat : Int) ≤ 2 ^ 63 := by
    by_cases e : i < j
    · have := Int.ediv_le_self c (show (0 : Int) ≤ j - i - 1 by omega)
      rw [e1, Int.add_mul_ediv_right _ _ (by omega)]
      omega
    · have := Int.ediv_neg_of_neg_of_pos (a := j - i - 1) (b := c) (by omega) (by omega)
      rw [e1, Int.add_mul_ediv_right _ _ (by omega)]
      omega
  unfold Builtin.Range.small
  rw [hs]
  have hn2 : (((j - i + c - 1) / c).toNat : Int) < 2 ^ 63 := by
    rw [e1, Int.add_mul_ediv_right _ _ (by omega)]
    by_cases e : i < j
    · have := Int.ediv_le_self c (show (0 : Int) ≤ j - i - 1 by omega)
      omega
    · have := Int.ediv_neg_of_neg_of_pos (a := j - i - 1) (b := c) (by omega) (by omega)
      omega
  simp only [Builtin.Range.rangeFitsLong, Bool.and_eq_true, Bool.or_eq_true, decide_eq_true_eq, beq_iff_eq]
  have hn0 : (0 : Int) ≤ (((j - i + c - 1) / c).toNat : Int) := Int.natCast_nonneg _
  generalize (((j - i + c - 1) / c).toNat : Int) = n at *
  rw [if_pos (show c > 0 by omega)]
  simp only [Bool.and_eq_true, decide_eq_true_eq]
  omega
theorem ei_rng3 (hm : X.mg "range" = none) (h : EX X false a τ M (fun d M1 => EX X false b τ M1 (fun d2 M2 => EX X false c τ M2 (fun d3 M3 => ∃ i j k, d = .int i ∧ d2 = .int j ∧ d3 = .int k ∧ rng3ok i j k ∧ PI' ((rangeC i k ((j - i + k - 1) / k).toNat).map Dat.int) M3 anyM) E) E) E) (hg : Gl X "range" := by rfl)
    (hs : starEach [a, b, c] X.env = (false, eval a X.env) :: starEach [b, c] X.env := by rfl) (hs2 : starEach [b, c] X.env = (false, eval b X.env) :: starEach [c] X.env := by rfl) (hs3 : starEach [c] X.env = (false, eval c X.env) :: starEach [] X.env := by rfl) (hpl : (backTo pos (starEach [b, c] X.env)).any (·.1) = false := by rfl) :
    EI X tg (.Call (.Name "range" p) [a, b, c] [] pos) τ M PI' E :=
  ei_range3 hm (h.imp (fun d M1 h1 => h1.imp (fun d2 M2 h2 => h2.imp (fun d3 M3 ⟨i, j, k, e1, e2, e3, hr, hp⟩ => ⟨i, j, k, _, e1, e2, e3, rng3_RgC hr, by rw [rngC_map]; exact hp⟩) fun _ _ x => x) fun _ _ x => x) fun _ _ x => x) hg hs hs2 hs3 hpl
/-! ### a list cell that is changed no more, under one name -/
theorem ws_frz {ds : List Dat} {M3 : Mem} (i : Nat) (ht : τ[i]? = some (some (.raw (.ref q)))) (pm : M.Perm ((q, .lst ds) :: M3)) (h : WS X T ss (τ.set i (some (.lst ds))) M3 R) : WS X T ss τ M R := .mk fun W tk σ G H hE hH D hR => by
  obtain ⟨G', s3, h3, d3⟩ := freezeL (hH.perm pm)
  have sA : Stp G M H G' M3 H := (Stp.refl.perm (List.Perm.refl _) pm).trans s3
  refine h.run W tk σ G' H (fun j d hj => ?_) h3 D (hR.step sA)
  by_cases c : i = j
  · subst c
    have hl : i < τ.length := (List.getElem?_eq_some_iff.mp ht).1
    rw [List.getElem?_set_self hl] at hj
    cases hj
    obtain ⟨v, e1, e2⟩ := hE i _ ht
    rw [e2.raw_inv] at e1
    exact ⟨_, e1, d3⟩
  · rw [List.getElem?_set_ne c] at hj
    obtain ⟨v, e1, e2⟩ := hE j d hj
    exact ⟨v, e1, e2.up sA.gg⟩
/-! ### texts -/
def preplS (x y z : Str) : Res Str := guard (x.length + (x.length + 1) * z.length ≤ 16777216) (Txt.replace x y z)
theorem ex_repl {y z : Str} {j k : Nat} {c0 c1 : Pos} (h : EX X true o τ M (fun d M1 => ∃ x Q E1, d = .str x ∧ (preplS x y z).Out Q E1 ∧ ∀ r, Q r → P (.str r) M1) E) (hyz : (y == z) = false := by decide)
    (hst : starEach [.Constant (.str y) j c0, .Constant (.str z) k c1] X.env = [(false, eval (.Constant (.str y) j c0) X.env), (false, eval (.Constant (.str z) k c1) X.env)] := by rfl)
    (hbase : attributeBase o "replace" X.env (eval o X.env) = eval o X.env := by rfl) (hline : (apos.endLine == pos.line) = true := by rfl) :
    EX X true (.Call (.Attribute o "replace" apos) [.Constant (.str y) j c0, .Constant (.str z) k c1] [] pos) τ M P E := .mk fun W tk σ G H hE hH Q hP hX pins s kt I => by
  have hO := h.run W tk σ G H hE hH (fun v H1 => ∃ x, v = .str x ∧ x.length + (x.length + 1) * z.length ≤ 16777216 ∧ Q (.str (Txt.replace x y z)) H1) (fun d M1 v G1 H1 ⟨x, Q', E1, ed, hg, hk⟩ s1 h1 dv => by
    subst ed
    exact ⟨x, dv.str_inv, (gd hg).1, hP _ _ _ _ _ (hk _ (gd hg).2) s1 h1 den_str⟩) hX
  exact CwR.pet_replT (to := tW X true o) (fun pins s σ H Q h0 I h => h pins s (fun _ => h0) I) hyz hst hbase hline pins s σ H Q (kt rfl) I hO
def pjoin (a : Str) (ys : List Str) : Res Str := guard ((ys.map (·.length)).sum + ys.length * a.length ≤ 16777216) (Txt.join a ys)
theorem r_join {a : Str} {xs : List Dat} (ys : List Str) (he : xs = ys.map Dat.str) {Q : Str → Prop} (h : (pjoin a ys).Out Q E1) (hk : ∀ r, Q r → P (.str r) M) : BMr X "str.join" (.str a) [.lst xs] M P :=
  ⟨_, mt_join, fun G H v vs hH dv dvs Q' hP => by
    subst he
    obtain ⟨u, rfl, d2⟩ := one_inv dvs
    obtain ⟨p, ws, rfl, g, dl⟩ := d2.lst_inv
    have ew := DenL.strs dl
    subst ew
    exact ⟨a, p, ys, dv.str_inv, rfl, .inl (SqL.of (hH.sub _ _ g)), (gd h).1, hP _ _ _ _ _ (hk _ (gd h).2) Stp.refl hH den_str⟩⟩
theorem r_joinS {a : Str} {xs : List Str} {Q : Str → Prop} (h : (pjoin a xs).Out Q E1) (hk : ∀ r, Q r → P (.str r) M) : BMr X "str.join" (.str a) [lstD Dat.str xs] M P := r_join xs rfl h hk
theorem r_joinC {a : Str} {xs : List Nat} {Q : Str → Prop} (h : (pjoin a (xs.map chS)).Out Q E1) (hk : ∀ r, Q r → P (.str r) M) : BMr X "str.join" (.str a) [lstD chD xs] M P := r_join (xs.map chS) (by rw [List.map_map]; rfl) h hk
theorem ex_join (h : EX X T o τ M (fun d M1 => TyB X.K M1 d "str" ∧ EA X T (e :: es) τ M1 (fun ds M2 => BMr X "str.join" d ds M2 P) E) E)
    (hbase : attributeBase o "join" X.env (eval o X.env) = eval o X.env := by rfl)
    (hfew : ((backTo tpos (starEach (e :: es) X.env)).all (fun x => !x.1) && (backToKw tpos (keywordEach [] X.env)).all (fun x => x.1.isSome) && decide ((e :: es).length + ([] : List Keyword).length + (if ([] : List Keyword).isEmpty then 0 else 1) < 30)) = true := by rfl)
    (hline : (apos.endLine == tpos.line) = true := by rfl) (hs : starEach (e :: es) X.env = (false, eval e X.env) :: starEach es X.env := by rfl) (hplain : (backTo tpos (starEach es X.env)).any (·.1) = false := by rfl) :
    EX X T (.Call (.Attribute o "join" apos) (e :: es) [] tpos) τ M P E := ex_bm PySem.F.plainAttrs_str PySem.F.slot_str_join PySem.F.type_str_join h hbase hfew hline hs hplain
/-! ### a list against [] -/
theorem r_eqNil {xs : List Dat} (hu : X.A.units + 64 < cLine) (h : P (.bl xs.isEmpty) M) : OP X T (compareOp .Eq) (.lst xs) (.lst []) M P := by
  cases xs with
  | nil => exact o_eqLT rfl (by decide) hu h
  | cons x xs => exact o_eqLn (by simp) hu h
theorem r_neNil {xs : List Dat} (hu : X.A.units + 64 < cLine) (h : P (.bl (!xs.isEmpty)) M) : OP X T (compareOp .NotEq) (.lst xs) (.lst []) M P := by
  cases xs with
  | nil => exact o_neLT rfl (by decide) hu h
  | cons x xs => exact o_neLn (by simp) hu h
theorem isE_map {f : α → Dat} {xs : List α} : (xs.map f).isEmpty = xs.isEmpty := by cases xs <;> rfl
theorem r_eqNilT (f : α → Dat) {xs : List α} (hu : X.A.units + 64 < cLine) (h : P (.bl xs.isEmpty) M) : OP X T (compareOp .Eq) (lstD f xs) (.lst []) M P := r_eqNil hu (by rw [isE_map]; exact h)
theorem r_neNilT (f : α → Dat) {xs : List α} (hu : X.A.units + 64 < cLine) (h : P (.bl (!xs.isEmpty)) M) : OP X T (compareOp .NotEq) (lstD f xs) (.lst []) M P := r_neNil hu (by rw [isE_map]; exact h)
end
theorem c_isx {X : Cx} {M : Mem} {P : PK'} {d : Dat} {cv : V} {u : Value} {k : Bool} (hc : ClsV cv u) (ht : ∃ t, (∀ M, TyD X.K M d t) ∧ PySem.W.kitOne X.K t u = some k) (h : P (.bl k) M) : BC X (.builtin "isinstance") [d, .raw cv] M P :=
  let ⟨_, h1, h2⟩ := ht
  c_isi hc (h1 M) h2 h
/-! ### methods of own classes -/
theorem FnOk.mono {P : Program} {w : World} {K : PySem.W.Frag} {mg : Str → Option Value} {base : Heap} {k : Nat} {f : Addr} {fd : FuncData} {ps : List Str} {CX : CXT} {sp sp' : Sp} (h : FnOk P w K mg base CX k f fd ps sp) (hi : ∀ vs H Q E, sp' vs H Q E → sp vs H Q E) : FnOk P w K mg base CX k f fd ps sp' :=
  ⟨fun vs H Q E q => h.len vs H Q E (hi _ _ _ _ q), fun A outer s H args us vs Q E hr e0 hb r hsp => h.run A outer s H args us vs Q E hr e0 hb r (hi _ _ _ _ hsp)⟩
theorem FnD.mono {P : Program} {w : World} {K : PySem.W.Frag} {mg : Str → Option Value} {base : Heap} {k : Nat} {f : Addr} {fd : FuncData} {ps : List Str} {S S' : Spc} (h : FnD P w K mg base k f fd ps S) (hi : ∀ ds M Pd PE, S' ds M Pd PE → S ds M Pd PE) : FnD P w K mg base k f fd ps S' :=
  FnOk.mono h fun vs H Q E ⟨G, ds, M, Pd, PE, h1, h2, h3, h4, h5⟩ => ⟨G, ds, M, Pd, PE, h1, h2, hi _ _ _ _ h3, h4, h5⟩
/-- the method m of instances of the class at C keeps S, around A -/
structure MO (P : Program) (w : World) (K : PySem.W.Frag) (mg : Str → Option Value) (base : Heap) (A : Around) (C : Addr) (m : Str) (S : Spc) : Prop where
  ex : ∃ k g fd ps, Cls K C ∧ Meth K C m g ∧ FnD P w K mg base k g fd ps S ∧ Room k A ∧ Binds K fd ps []
section
variable {X : Cx} {T : Bool} {τ : TEnv} {M : Mem} {P : PK'} {E : XKx} {e o : Expr} {es : List Expr} {pos p apos : Pos} {m : Str}
theorem ex_mv {pl : Sem Bool} (h : EX X T o τ M (fun d M1 => ∃ C S, MO X.prog X.w X.K X.mg X.base X.A C m S ∧ IsI C m M1 d ∧ EA X T (e :: es) τ M1 (fun ds M2 => AP S (d :: ds) M2 P E) E) E)
    (ht : eval (.Call (.Attribute o m apos) (e :: es) [] pos) X.env = (do let ov ← eval o X.env; standAt apos.atName; let (f, first) ← holding [ov] (getMethod ov m pl); callWith pos f first (backTo pos (starEach (e :: es) X.env)) []) := by rfl)
    (he : starEach (e :: es) X.env = (false, eval e X.env) :: starEach es X.env := by rfl) (hpl : (backTo pos (starEach es X.env)).any (·.1) = false := by rfl) :
    EX X T (.Call (.Attribute o m apos) (e :: es) [] pos) τ M P E := by
  refine .mk ?_; intro W tk σ G H hE hH Q hP hX pins s k0 I
  have hO := h.run W tk σ G H hE hH (fun x H1 => ∃ a C S dx fs, MO X.prog X.w X.K X.mg X.base X.A C m S ∧ x = .ref a ∧ H1 a = some (.ins C dx fs) ∧ fs.lookup m = none ∧ tWA X T (e :: es) σ H1 fun vs H2 => toSp X.K S (x :: vs) H2 Q (fun c d H3 => W c d σ H3)) (fun d M1 v G1 H1 ⟨C, S, mo, hi, ha⟩ s1 h1 dv => by
    obtain ⟨a, dx, fs, e1, e2, e3⟩ := hi.get h1 dv
    exact ⟨a, C, S, dx, fs, mo, e1, e2, e3, ha.run W tk σ G1 H1 (hE.up s1.gg) h1 _ (fun ds M2 vs G2 H2 hp s2 h2 dvs2 => ap_toSp hp (.cons (dv.up s2.gg) dvs2) h2 (hP.step (s1.trans s2)) (hX.step (s1.trans s2))) (hX.step s1)⟩) hX
  refine PySem.W.methodCall_KW (pl := pl) (thnT k0 (hO pins s k0 I) fun u s1 k1 ⟨x, H1, I1, rx, a, C, S, dx, fs, mo, ex, ea, l, q⟩ => ?_) ht
  subst ex
  obtain rfl : u = Value.ref a := rx
  obtain ⟨k, g, fd, ps, c, hm, F, hr, hb⟩ := mo.ex
  refine getmeth_ok I1 ea c hm l ?_
  refine PySem.W.callWith_K (h₀ := X.base) (first := [.ref a]) I1.ok.mod.kin hm.kp (thn (q pos pins s1 k1 I1) fun us s2 ⟨vs, H2, I2, r, q2⟩ => ⟨I2.kIn, ?_⟩) he hpl
  exact run_d (us := .ref a :: us) (vs := .ref a :: vs) (dsv := []) (dvs := []) F hr hb .nil tk I2 (.cons rfl r) (by rw [List.append_nil]; exact q2)
theorem mvD {d : Dat} {S : Spc} (h : ∃ C, MO X.prog X.w X.K X.mg X.base X.A C m S ∧ ∀ M, IsI C m M d) (ha : EA X T es τ M (fun ds M2 => S (d :: ds) M2 (UpP P) (UpP E)) E) :
    ∃ C S, MO X.prog X.w X.K X.mg X.base X.A C m S ∧ IsI C m M d ∧ EA X T es τ M (fun ds M2 => AP S (d :: ds) M2 P E) E :=
  let ⟨C, h1, h2⟩ := h
  ⟨C, S, h1, h2 M, .mk fun W tk σ G H hE hH Q hP hX => ha.run W tk σ G H hE hH Q (fun ds M2 vs G2 H2 hs => hP ds M2 vs G2 H2 (ap_all hs)) hX⟩
/-- what becomes of an instance that is made: it is frozen at once -/
theorem made_ok {C x dx : Addr} {fs : List (Str × Dat)} (h : P (.obj C (fs.map (·.1)) (fs.map (·.2))) M) : MadeP P x ((x, .ins C dx fs) :: M) := .inr ⟨C, dx, fs, M, List.Perm.refl _, h⟩
end
end Kh

set_option Elab.async false
set_option linter.all false
set_option maxRecDepth 100000
set_option maxHeartbeats 1000000
namespace Kh
open PySem PySem.Spec L2
/-! ### own operators -/
section
variable {prog : Program} {w : World} {A : Around} {E : Value → Shared → Prop} {s : Shared} {K : PySem.W.Frag} {x C L f : Addr} {h₀ : Heap} {m : Str → Option Value} {ox : Obj} {od : Option Obj} {name : Str} {b tb : Value}
open PySem.W in
theorem ifBound_B {M : Model} {args : List Value} {id : String} {Q : Option Value → Shared → Prop} (X : K.In s.heap) (I : InstAt s.heap x ox C od) (hs : findIn K (.ref C) name = some (some (.builtin id)))
    (hb : ∀ self, bindSpecial (.builtin id) self = pure (.builtin id, [self])) (h : wpAny M A (call (.builtin id) (.ref x :: args)) (fun v => Q (some v)) E s) : wpAny M A (callSpecialIfBound? (.ref x) name args) Q E s := by
  simp only [callSpecialIfBound?, bindSpecialIfBound?]
  refine wpAny_holding (wpAny_bind (wpAny_bind (wpAny_bind (I.type.here ((looks_findIn X hs).here ?_)))))
  refine wpAny_bind (wpAny_askSetting (wpAny_ite ?_))
  have fin : wpAny M A (call (.builtin id) ([.ref x] ++ args) >>= fun v => pure (some v)) Q E s := wpAny_bind (wpAny_mono h (fun v s' h' => wpAny_pure h') fun _ _ h' => h')
  split
  · exact wpAny_bind ((Looks.of_pure (hb _)).here (wpAny_pure (by exact fin)))
  · exact wpAny_tryCatch (wpAny_bind ((Looks.of_pure (hb _)).here (wpAny_pure (by exact fin))))
open PySem.W in
theorem ne_K {Q : Value → Shared → Prop} (hu : A.units < cLine) (hu1 : A.in1.units < cLine) (F : PyProof.Rows.Fr h₀ L s.heap m) (X₀ : K.In h₀) (I : InstAt s.heap x ox C od) (hb : Looks (model prog w) s.heap (typeOf b) tb) (hn : notFirst K C tb = true)
    (hs : findIn K (.ref C) "__ne__" = some (some (.builtin "object.__ne__"))) (he : findIn K (.ref C) "__eq__" = some (some (.ref f))) (hf : isFn K (.ref f) = true) (hm : mroIn K C (.type "object") = some true)
    (h : wpAny (model prog w) A.in1 (call (.ref f) [.ref x, b]) (fun v s' => ∃ k, v = .bool k ∧ Q (.bool (!k)) s') E s) : wpAny (model prog w) A (richCompare .NotEq (.ref x) b) Q E s := by
  have X := X₀.keeps F.keep
  have one : wpAny (model prog w) A (tryCompare (.ref x) "__ne__" b) (fun r s' => ∃ v, r = some v ∧ Q v s') E s := by
    unfold tryCompare
    refine wpAny_bind (ifBound_B (args := [b]) X I hs PySem.F.slot_object_ne.bind ?_)
    refine wpAny_call (codeAny_call_builtin PySem.F.slot_object_ne.plain PySem.F.entry_object_ne (check_slot (i := "object.__ne__") (owner := "object") (n := "__ne__") (by decide +kernel) (by decide +kernel) (I.type.andThen (looks_mroIn X hm)) (PySem.F.args_object_ne_2 _ _) ?_))
    unfold Builtin.«object.__ne__»
    refine wpAny_bind (m := slotArgs "__ne__" 1 _) (wpAny_pure ?_)
    refine wpAny_bind (m := cRoomFor _ _) (wpAny_cRoomFor hu1 ?_)
    refine wpAny_bind (m := callSpecialIfBound? (.ref x) (Str.ofString "__eq__") _) (ifBound_K (args := [b]) X I he hf (wpAny_mono h (fun v s' hv => ?_) fun _ _ e => e))
    obtain ⟨k, rfl, hq⟩ := hv
    refine wpAny_bind (wpAny_truthy_bool ?_)
    refine wpAny_pure ?_
    exact wpAny_pure ⟨_, rfl, hq⟩
  unfold richCompare
  simp only [oneThing_ref]
  refine wpAny_holding (wpAny_bind (wpAny_cRoomFor hu ?_))
  refine wpAny_bind (I.type.here (wpAny_bind (hb.here ?_)))
  split
  · rename_i q
    have e : subIn K tb (.ref C) = some false := by
      rcases Bool.or_eq_true_iff.mp hn with e | e
      · rw [beq_iff_eq.mp e] at q; simp at q
      · exact beq_iff_eq.mp e
    refine wpAny_bind ((looks_subIn X e).here ?_)
    simp only [Bool.false_eq_true, if_false]
    refine wpAny_bind (wpAny_mono one (fun r s' z => ?_) fun _ _ e => e)
    obtain ⟨v, rfl, hq⟩ := z
    exact wpAny_pure hq
  · refine wpAny_bind (wpAny_pure ?_)
    simp only [Bool.false_eq_true, if_false]
    refine wpAny_bind (wpAny_mono one (fun r s' z => ?_) fun _ _ e => e)
    obtain ⟨v, rfl, hq⟩ := z
    exact wpAny_pure hq
end
section
variable {X : Cx} {T : Bool} {τ : TEnv} {M : Mem} {P : PK'} {E : XKx} {a b e o : Expr} {es : List Expr} {pos p apos : Pos} {k : Nat} {fa C : Addr} {fd : FuncData} {ps : List Str} {S : Spc} {W : WX}
/-- a def's call around another place -/
theorem run_dA {A' : Around} {pins : List (Addr × Obj)} {σ : L2.St} {H : Hp} {s : Shared} {Q : VK} {us : List Value} {vs : List V} (F : FnD X.prog X.w X.K X.mg X.base k fa fd ps S) (hr : Room k A') (he : Env0 X.prog X.w X.K X.mg X.base A' X.stack s H) (hb : Binds X.K fd ps []) (tk : Takes X W)
    (I : Inv X pins σ H s) (r : Vals vs us) (h : toSp X.K S vs H Q (fun c d H2 => W c d σ H2)) : wpAny (model X.prog X.w) A' (call (.ref fa) us) (EP X pins σ Q) X.xe s := by
  have hl : (us ++ []).length = ps.length := by rw [List.append_nil, ← r.length]; exact F.len _ _ _ _ h
  have hbb := hb s us I.kIn hl
  rw [List.append_nil] at hbb
  refine wpAny_call (codeAny_mono (F.run A' X.stack s H ⟨us, []⟩ us vs Q _ hr he hbb r h) fun r s' hq => ?_)
  cases r with
  | error e => exact tk e s' (XE.of_call I (fun cls d H' h => h) hq)
  | ok fl =>
    cases fl with
    | ret u => exact I.after hq
    | next => exact False.elim hq
    | brk => exact False.elim hq
    | cont => exact False.elim hq
/-- x != y, x an instance of the class at C with an own __eq__ at fa, without an own __ne__ -/
theorem o_neOwn {x y : Dat} {t : Value} (F : FnD X.prog X.w X.K X.mg X.base k fa fd ps S) (hr : Room (k + 1) X.A) (hs : PySem.W.findIn X.K (.ref C) "__eq__" = some (some (.ref fa))) (hf : PySem.W.isFn X.K (.ref fa) = true)
    (hne : PySem.W.findIn X.K (.ref C) "__ne__" = some (some (.builtin "object.__ne__"))) (hm : PySem.W.mroIn X.K C (.type "object") = some true) (hb : Binds X.K fd ps [])
    (hx : IsI C "__eq__" M x) (ty : TyD X.K M y t) (hn : PySem.W.notFirst X.K C t = true) (h : S [x, y] M (UpP fun d M2 => ∃ b, d = .bl b ∧ P (.bl (!b)) M2) (UpP E0')) : OP X T (compareOp .NotEq) x y M P := by
  intro G H v u hH dx dy Q hP pins s σ v' u' _ I rx ry
  obtain ⟨a, dxa, fs, rfl, ea, _⟩ := hx.get hH dx
  obtain rfl : v' = Value.ref a := rx
  obtain ⟨mA, J, _⟩ := ins_get I.hok ea
  obtain ⟨od, J, _⟩ := J.look
  obtain ⟨m, hF⟩ := I.fr
  obtain ⟨Pr, Z, pz, _⟩ := kit_of I ry (tyD_ok ty hH dy)
  have hsp : toSp X.K S [.ref a, u] H (fun z H' => ∃ b, z = .bl b ∧ Q (.bl (!b)) H') (fun _ _ _ => False) :=
    ap_toSp (ap_all h) (.cons dx (.cons dy .nil)) hH (fun d M2 z G2 H2 ⟨b, ed, hp⟩ s2 h2 dz => by subst ed; exact ⟨b, dz.bl_inv, hP _ _ _ _ _ hp s2 h2 den_bl⟩) noX
  refine ne_K (tb := t) hr.units0 hr.in1.units0 hF I.ok.mod.kin J (Z.ty _ _ I.kIn pz) hn hne hs hf hm ?_
  refine wpAny_mono (run_dA (W := fun _ _ _ _ => False) (us := [.ref a, u']) (vs := [.ref a, u]) F hr.in1 I.env0.in1 hb takes0 I (.cons rfl (.cons ry .nil)) hsp) (fun r s' q => ?_) fun _ _ z => z
  obtain ⟨z, H', I', rz, b, ez, q⟩ := q
  subst ez
  cases rz
  exact ⟨b, rfl, .bl (!b), H', I', rfl, q⟩
theorem o_binOwn {op : Operator} {x y : Dat} (F : FnD X.prog X.w X.K X.mg X.base k fa fd ps S) (hr : Room k X.A) (hs : PySem.W.findIn X.K (.ref C) (PySem.dunder op.info.2) = some (some (.ref fa))) (hf : PySem.W.isFn X.K (.ref fa) = true) (hb : Binds X.K fd ps []) (hc : PySem.W.selfFirst X.K C = true)
    (hx : ∀ M, IsI C "__eq__" M x) (hy : ∀ M, IsI C "__eq__" M y) (h : S [x, y] M (UpP fun d M2 => isR d = true ∧ P d M2) (UpP E0')) : OP X T (binaryOp op) x y M P := by
  intro G H v u hH dx dy Q hP pins s σ v' u' _ I rx ry
  obtain ⟨a, dxa, fs, rfl, ea, _⟩ := (hx M).get hH dx
  obtain ⟨b, dxb, fsb, rfl, eb, _⟩ := (hy M).get hH dy
  obtain rfl : v' = Value.ref a := rx
  obtain rfl : u' = Value.ref b := ry
  obtain ⟨mA, J, _⟩ := ins_get I.hok ea
  obtain ⟨od, J, _⟩ := J.look
  obtain ⟨mB, J2, _⟩ := ins_get I.hok eb
  obtain ⟨od2, J2, _⟩ := J2.look
  obtain ⟨m, hF⟩ := I.fr
  have hsp : toSp X.K S [.ref a, .ref b] H (fun z H' => (∃ c, z = .ref c) ∧ Q z H') (fun _ _ _ => False) :=
    ap_toSp (ap_all h) (.cons dx (.cons dy .nil)) hH (fun d M2 z G2 H2 ⟨hd, hp⟩ s2 h2 dz => ⟨den_isR hd dz, hP _ _ _ _ _ hp s2 h2 dz⟩) noX
  refine PySem.W.binop_K hF I.ok.mod.kin J J2.type hc hs hf ?_
  refine wpAny_mono (run_d (dsv := []) (dvs := []) (W := fun _ _ _ _ => False) (us := [.ref a, .ref b]) (vs := [.ref a, .ref b]) F hr hb .nil takes0 I (.cons rfl (.cons rfl .nil)) (by rw [List.append_nil]; exact hsp)) (fun r s' q => ?_) fun _ _ z => z
  obtain ⟨z, H', I', rz, ⟨c, rfl⟩, q⟩ := q
  obtain rfl : r = Value.ref c := rz
  exact ⟨.ref c, H', I', rfl, q⟩
theorem nf_self {K : PySem.W.Frag} {C : Addr} : PySem.W.notFirst K C (.ref C) = true := by
  unfold PySem.W.notFirst; simp
theorem r_neOwn {x y : Dat} {m : Res Bool} {Q : Bool → Prop} {E1 : Er → Prop} {t : Value} (F : FnD X.prog X.w X.K X.mg X.base k fa fd ps S) (hr : Room (k + 1) X.A) (mt : Meth X.K C "__eq__" fa) (hne : PySem.W.findIn X.K (.ref C) "__ne__" = some (some (.builtin "object.__ne__"))) (hl : ICls X.K C) (hb : Binds X.K fd ps []) (hx : ∀ M, IsI C "__eq__" M x) (ty : ∀ M, TyD X.K M y t) (hn : PySem.W.notFirst X.K C t = true)
    (hS : ∀ (P' : PK') (E' : XKx), m.Out (fun r => P' (.bl r) M) (fun _ => False) → S [x, y] M P' E') (h : m.ne.Out Q E1) (hk : ∀ b, Q b → P (.bl (!b)) M) : OP X T (compareOp .NotEq) x y M P :=
  o_neOwn F hr mt.1 mt.2 hne hl.mr hb (hx M) (ty M) hn (hS _ _ (out_mono (ne_out (E' := fun _ => False) h) (fun r q => UpP.mk ⟨r, rfl, hk r q⟩) fun _ z => z))
/-- a property of a class that is told -/
theorem ex_propD {n : Str} (h : EX X T e τ M (fun d M1 => ∃ C q g k fd ps S, Cls X.K C ∧ PropOf X.K C n q g ∧ FnD X.prog X.w X.K X.mg X.base k g fd ps S ∧ Room (k + 1) X.A ∧ Binds X.K fd ps [] ∧ (∃ m, IsI C m M1 d) ∧ AP S [d] M1 P E0') E) (hab : attributeBase e n X.env (eval e X.env) = eval e X.env := by rfl) : EX X T (.Attribute e n pos) τ M P E := by
  refine .mk ?_; intro W tk σ G H hE hH Q hP hX
  intro pins s k0 I
  have hO := h.run W tk σ G H hE hH (fun x H1 => ∃ C q g k fd ps S a dx fs, Cls X.K C ∧ PropOf X.K C n q g ∧ FnD X.prog X.w X.K X.mg X.base k g fd ps S ∧ Room (k + 1) X.A ∧ Binds X.K fd ps [] ∧ x = .ref a ∧ H1 a = some (.ins C dx fs) ∧ toSp X.K S [x] H1 Q L2.E0) (fun d M1 v G1 H1 ⟨C, q, g, k, fd, ps, S, c, hp, F, hr, hb, ⟨m, hi⟩, ha⟩ s1 h1 dv => by
    obtain ⟨a, dx, fs, e1, e2, e3⟩ := hi.get h1 dv
    exact ⟨C, q, g, k, fd, ps, S, a, dx, fs, c, hp, F, hr, hb, e1, e2, ap_toSp ha (.cons dv .nil) h1 (hP.step s1) noX⟩) hX
  refine attr_of hab (thn (hO pins s k0 I) fun u s1 ⟨x, H1, I1, rx, C, q, g, k, fd, ps, S, a, dx, fs, c, hp, F, hr, hb, ex, ea, qq⟩ => ?_)
  subst ex
  obtain rfl : u = Value.ref a := rx
  exact getprop_ok (dvs := []) I1 ea c hp F hr hb .nil passL qq
end
/-! ### a comprehension that changes cells -/
section
variable {X : Cx} {T : Bool} {τ : TEnv} {M : Mem} {P : PK'} {E : XKx} {t e iter tg : Expr} {pos : Pos} {α β σ ρ : Type} {E1 : Er → Prop}
end
end Kh

set_option Elab.async false
set_option linter.all false
set_option maxRecDepth 100000
set_option maxHeartbeats 4000000
namespace Kh
open PySem PySem.Spec L2
/-! ### text[::-1] -/
section
variable {X : Cx} {T : Bool} {τ : TEnv} {M : Mem} {P : PK'} {E : XKx} {e : Expr} {pos p1 p2 p3 : Pos} {kk : Nat}
open PyProof.Rows in
end
/-! ### a property by an instance's class -/
def PrD (P : Program) (w : World) (K : PySem.W.Frag) (mg : Str → Option Value) (base : Heap) (A : Around) {α : Type} (n : Str) (d : Dat) (m : Res α) (e : α → Dat) : Prop :=
  ∀ M (P' : PK') E1, m.ne.Out (fun r => P' (e r) M) E1 → ∃ C q g k fd ps S, Cls K C ∧ PropOf K C n q g ∧ FnD P w K mg base k g fd ps S ∧ Room (k + 1) A ∧ Binds K fd ps [] ∧ (∃ mm, ∀ M, IsI C mm M d) ∧ S [d] M (UpP P') (UpP E0')
theorem prD {X : Cx} {α : Type} {M : Mem} {P : PK'} {n : Str} {d : Dat} {m : Res α} {e : α → Dat} {Q : α → Prop} {E1 : Er → Prop} (hp : PrD X.prog X.w X.K X.mg X.base X.A n d m e) (h : m.ne.Out Q E1) (hk : ∀ r, Q r → P (e r) M) :
    ∃ C q g k fd ps S, Cls X.K C ∧ PropOf X.K C n q g ∧ FnD X.prog X.w X.K X.mg X.base k g fd ps S ∧ Room (k + 1) X.A ∧ Binds X.K fd ps [] ∧ (∃ m, IsI C m M d) ∧ AP S [d] M P E0' := by
  obtain ⟨C, q, g, k, fd, ps, S, h1, h2, h3, h4, h5, ⟨mm, h6⟩, h7⟩ := hp M P E1 (out_mono h hk fun _ z => z)
  exact ⟨C, q, g, k, fd, ps, S, h1, h2, h3, h4, h5, ⟨mm, h6 M⟩, ap_all h7⟩
end Kh

set_option Elab.async false
set_option linter.all false
set_option maxRecDepth 100000
set_option maxHeartbeats 1000000
namespace Kh
open PySem PySem.Spec L2
/-! ### for x in an instance whose __iter__ gives iter(a text of its own) -/
theorem run_w {CX : CXT} {P : Program} {w : World} {K : PySem.W.Frag} {mg : Str → Option Value} {base : Heap} {k : Nat} {f : Addr} {name qual : Str} {params : Arguments} {body : List Stmt} {scope : Scope} {dV kV doc pm cdv ct oc : Value} {an od : Option Addr}
    {osl : Array (Option Value)} {N ps : List Str} (lk : K.lookup f = some ⟨oc, od, .func (PySem.W.fnOf name qual params body scope dV kV doc pm an cdv ct), osl⟩) (hcd : PySem.W.codeIn K cdv qual = true) (S : FnScope N ps scope)
    {A : Around} {outer : List Env} {s : Shared} {H : Hp} {args : Args} {us : List Value} {vs : List V} {Q : VK} {E : XK} (hr : Room (k + 1) A) (e0 : Env0 P w K mg base A outer s H) (hb : BindsTo s (PySem.W.fnOf name qual params body scope dV kV doc pm an cdv ct) args (ps.zip us)) (r : Vals vs us) (hl : vs.length = ps.length)
    (hbody : tWSs (cxOf CX P w K mg base N qual scope f cdv A outer s H E) false body { nx := fun _ H' => Q .non H', rt := Q } (L2.start N vs) H) :
    codeAny (model P w) A (.call (.ref f) args) (CR CX outer P w H s Q E) s := by
  have KX : K.In s.heap := e0.mod.kin.keeps fun b o e => (e0.bs b o e).1
  have lim : s.heap.NoLimit := e0.mod.nolimit.keeps fun b o e => (e0.bs b o e).1
  have kinds : ∀ y ∈ ps.zip us, scope.names.lookup y.1 = some .local ∨ (scope.names.lookup y.1 = some .cell ∧ ((cellsFrom (s.heap.objs.size + 1) scope.names []).lookup y.1).isSome = true) := fun ⟨n, v⟩ hy => by
    rcases S.par n (List.of_mem_zip hy).1 with q | q
    · exact .inl q
    · exact .inr ⟨q, PySem.W.cellsFrom_some _ _ _ (.inl q)⟩
  refine codeAny_call_function hr.depth (KX _ _ lk) rfl S.co S.gen rfl (PySem.W.codeRec_of KX hcd) (hb _ _ _ _ ?_)
  refine wpAny_newFunctionEnv_cells S.kind kinds fun env he s1 x => ?_
  subst he
  refine ⟨lim.keeps x.toInCall.keep, codeAny_func ?_⟩
  have I : Inv (cxOf CX P w K mg base N qual scope f cdv A outer s H E) [] (L2.start N vs) H s1 := inv_start S hr.hd e0 hl r x
  refine wpAny_mono (hbody [] s1 tk_f I) (fun fl s' hs => ?_) fun e s' hs => hs
  cases fl with
  | ret u =>
    obtain ⟨v, σ', H', J, rv, q⟩ := hs
    exact ⟨v, H', J.os, J.bare, J.base, J.hok, rv, q⟩
  | next =>
    obtain ⟨σ', H', J, q⟩ := hs
    exact ⟨V.non, H', J.os, J.bare, J.base, J.hok, (rfl : Value.none = Value.none), q⟩
  | brk => obtain ⟨_, _, _, q⟩ := hs; exact False.elim q
  | cont => obtain ⟨_, _, _, q⟩ := hs; exact False.elim q
end Kh

set_option Elab.async false
set_option linter.all false
set_option maxRecDepth 100000
set_option maxHeartbeats 1000000
namespace Kh
open PySem PySem.Spec L2
/-! ### list(a text) -/
end Kh

set_option Elab.async false
set_option linter.all false
set_option maxRecDepth 100000
set_option maxHeartbeats 4000000
namespace Kh
open PySem PySem.Spec L2
open PySem.W PySem.Calls PyProof.Rows PySem.HandSPX

/-! ### several except clauses, each 'except C as n' -/
/-- a clause: class's name, class, name told, suite -/
structure Cl where
  x : Str
  np : Pos
  c : Value
  n : Str
  b₀ : Stmt
  suite : List Stmt
  pos : Pos
def Cl.hd (l : Cl) : ExceptHandler := .ExceptHandler (some (.Name l.x l.np)) (some l.n) (l.b₀ :: l.suite) l.pos
section
variable {X : Cx} {body : List Stmt} {l₀ : Cl} {ls : List Cl} {r : List (Value × Nat × (Addr → Value → Option Addr → TS))} {pos : Pos} {tb : WX → TS} {Wout : WX}
end

/-! ### over the judgement of statements -/
section
variable {X : Cx} {T : Bool} {τ : TEnv} {M : Mem} {R : RK} {rest body : List Stmt} {pos : Pos} {l₀ : Cl} {ls : List Cl}
end
end Kh

set_option Elab.async false
set_option linter.all false
set_option maxRecDepth 100000
set_option maxHeartbeats 1000000
namespace Kh
open PySem PySem.Spec L2
/-! ### an error caught -/
namespace Res
def grab {α : Type} : Res α → (Er → Res α) → Res α
  | .ok a, _ => .ok a
  | .err x, k => k x
  | .bad, _ => .bad
  | .all f, k => .all fun q => (f q).grab k
end Res
section
variable {α : Type}
@[simp] theorem grab_ok {a : α} {k : Er → Res α} : (Res.ok a).grab k = .ok a := rfl
@[simp] theorem grab_err {x : Er} {k : Er → Res α} : (Res.err x).grab k = k x := rfl
theorem grab_out {k : Er → Res α} {P : α → Prop} {E : Er → Prop} : ∀ {m : Res α}, (m.grab k).Out P E → m.Out P (fun x => (k x).Out P E)
  | .ok _, h => h
  | .err _, h => h
  | .bad, h => h
  | .all f, h => fun q => grab_out (m := f q) (h q)
end
/-! ### values of any kind compared -/
mutual
def eqA : Any → Any → Bool
  | .non, .non => true
  | .bl a, .bl b => decide (a = b)
  | .int i, .int j => decide (i = j)
  | .str s, .str t => decide (s = t)
  | .lst xs, .lst ys => eqAL xs ys
  | .tup xs, .tup ys => eqAL xs ys
  | .tag a _, .tag b _ => decide (a = b)
  | .cel a, .cel b => decide (a = b)
  | _, _ => false
def eqAL : List Any → List Any → Bool
  | [], [] => true
  | x :: xs, y :: ys => eqA x y && eqAL xs ys
  | _, _ => false
end
mutual
def dpA : Any → Nat
  | .lst xs => dpAL xs + 1
  | .tup xs => dpAL xs + 1
  | _ => 1
def dpAL : List Any → Nat
  | [] => 0
  | x :: xs => max (dpA x) (dpAL xs)
end
section
variable {cl : OK → Addr × List Str}
mutual
theorem eqA_D : ∀ {x y : Any}, eqA x y = true → eqT (anyD cl x) (anyD cl y) = true
  | .non, y, h => by cases y <;> simp [eqA] at h; simp [anyD, eqT]
  | .bl a, y, h => by cases y <;> simp [eqA] at h; simp [anyD, eqT, h]
  | .int a, y, h => by cases y <;> simp [eqA] at h; simp [anyD, eqT, h]
  | .str a, y, h => by cases y <;> simp [eqA] at h; simp [anyD, eqT, h]
  | .lst xs, y, h => by
    cases y <;> simp [eqA] at h
    simp only [anyD, eqT]; exact eqAL_D h
  | .tup xs, y, h => by
    cases y <;> simp [eqA] at h
    simp only [anyD, eqT]; exact eqAL_D h
  | .tag a _, y, h => by cases y <;> simp [eqA] at h; simp [anyD, eqT, h]
  | .cel a, y, h => by cases y <;> simp [eqA] at h; simp [anyD, eqT, h]
  | .dic, y, h => by cases y <;> simp [eqA] at h
  | .obj _ _, y, h => by cases y <;> simp [eqA] at h
theorem eqAL_D : ∀ {xs ys : List Any}, eqAL xs ys = true → eqTL (anyDL cl xs) (anyDL cl ys) = true
  | [], [], _ => by simp [anyDL, eqTL]
  | x :: xs, y :: ys, h => by
    simp only [eqAL, Bool.and_eq_true] at h
    simp only [anyDL, eqTL, Bool.and_eq_true]
    exact ⟨eqA_D h.1, eqAL_D h.2⟩
  | [], _ :: _, h => by simp [eqAL] at h
  | _ :: _, [], h => by simp [eqAL] at h
end
mutual
theorem dpA_D : ∀ {x : Any}, dpD (anyD cl x) = dpA x
  | .non => by simp [anyD, dpD, dpA]
  | .bl _ => by simp [anyD, dpD, dpA]
  | .int _ => by simp [anyD, dpD, dpA]
  | .str _ => by simp [anyD, dpD, dpA]
  | .lst xs => by simp only [anyD, dpD, dpA]; rw [dpAL_D]
  | .tup xs => by simp only [anyD, dpD, dpA]; rw [dpAL_D]
  | .dic => by simp [anyD, dpD, dpA]
  | .obj _ _ => by simp [anyD, dpD, dpA]
  | .tag _ _ => by simp [anyD, dpD, dpA]
  | .cel _ => by simp [anyD, dpD, dpA]
theorem dpAL_D : ∀ {xs : List Any}, dpDL (anyDL cl xs) = dpAL xs
  | [] => by simp [anyDL, dpDL, dpAL]
  | x :: xs => by simp only [anyDL, dpDL, dpAL]; rw [dpA_D, dpAL_D]
end
end
section
variable {X : Cx} {T : Bool} {M : Mem} {P : PK'} {E1 : Er → Prop} {cl : OK → Addr × List Str} {Q : Bool → Prop} {xs ys : List Any}
end
/-! ### what a value of any kind is -/
def AsI : Any → Res Int
  | .int i => .ok i
  | _ => .bad
def AsL : Any → Res (List Any)
  | .lst xs => .ok xs
  | _ => .bad
def AsS : Any → Res Str
  | .str s => .ok s
  | _ => .bad
section
variable {cl : OK → Addr × List Str} {E1 : Er → Prop}
end
section
variable {X : Cx} {M : Mem} {P : PK'} {E1 : Er → Prop} {cl : OK → Addr × List Str} {Q : Bool → Prop} {pr : OK → Bool} {a : Any}
end
section
variable {X : Cx} {T : Bool} {τ : TEnv} {M : Mem} {P : PK'} {E : XKx} {e : Expr} {E1 : Er → Prop} {cl : OK → Addr × List Str} {a : Any} {pos : Pos} {α : Type}
/-- a value seen as one of any kind -/
theorem ex_asA (h : EX X T e τ M (fun d M1 => ∃ d', d = d' ∧ P d' M1) E) : EX X T e τ M P E := h.imp (fun d M1 ⟨_, e, h⟩ => e ▸ h) fun _ _ h => h
end
/-! ### try, as it goes on in one way -/
section
variable {X : Cx} {T : Bool} {τ : TEnv} {M : Mem} {R : RK} {rest body : List Stmt} {pos : Pos} {l₀ : Cl} {ls : List Cl} {α : Type} {E1 : Er → Prop}
end
/-! ### isinstance to an own class -/
section
variable {X : Cx} {M : Mem} {P : PK'} {E1 : Er → Prop} {cl : OK → Addr × List Str} {Q : Bool → Prop} {su : OK → Option Bool} {a : Any} {D : Addr}
end
end Kh

set_option Elab.async false
set_option linter.all false
set_option maxRecDepth 100000
set_option maxHeartbeats 1000000
namespace Kh
open PySem PySem.Spec L2
open PySem.SeqAt (EqAt RcAt RcNeAt)
/-! ### lists that are told as data or as cells -/
def LsD (M : Mem) (d : Dat) (xs : List Dat) : Prop := d = .lst xs ∨ ∃ q, d = .raw (.ref q) ∧ (q, MC.lst xs) ∈ M
theorem LsD.cell {M : Mem} {q : Addr} {xs ys : List Dat} (e : xs = ys) (h : (q, MC.lst xs) ∈ M) : LsD M (.raw (.ref q)) ys := e ▸ .inr ⟨q, rfl, h⟩
theorem LsD.dat {M : Mem} {xs ys : List Dat} (e : xs = ys) : LsD M (.lst xs) ys := e ▸ .inl rfl
theorem LsD.get {K : PySem.W.Frag} {G H : Hp} {M : Mem} {d : Dat} {xs : List Dat} {v : V} (h : LsD M d xs) (hH : Hst K G M H) (dv : Den K G d v) : ∃ a vs, v = .ref a ∧ H a = some (.lst vs) ∧ DenL K G xs vs := by
  rcases h with rfl | ⟨q, rfl, hm⟩
  · obtain ⟨a, vs, rfl, ga, da⟩ := dv.lst_inv
    exact ⟨a, vs, rfl, hH.sub _ _ ga, da⟩
  · obtain ⟨vs, g1, g2⟩ := hH.mem _ hm
    exact ⟨q, vs, dv.raw_inv, g1, g2⟩
section
variable {X : Cx} {T : Bool} {τ : TEnv} {M : Mem} {P : PK'} {E : XKx} {R : RK} {x y : Dat} {cl : OK → Addr × List Str} {Q : Bool → Prop} {E1 : Er → Prop}
end
end Kh

set_option Elab.async false
set_option linter.all false
set_option maxRecDepth 100000
set_option maxHeartbeats 1000000
namespace Kh
open PySem PySem.Spec L2
open PyProof.Rows (boot_range)
/-! ### ranges with steps of any size -/
section
variable {X : Cx} {tg : Expr}
end
def rng3B (i j c : Int) : Prop := (small62 i ∧ small62 j) ∧ 0 < c ∧ c.natAbs.log2 < 9000
instance {i j c : Int} : Decidable (rng3B i j c) := inferInstanceAs (Decidable (_ ∧ _))
section
variable {X : Cx} {τ : TEnv} {M : Mem} {E : XKx} {a b c tg : Expr} {p pos : Pos} {PI' : List Dat → Mem → (Mem → Prop) → Prop}
end
/-! ### == by an own __eq__, as it is found -/
def EqO (pr : Program) (w : World) (K : PySem.W.Frag) (mg : Str → Option Value) (base : Heap) (A : Around) (x y : Dat) (m : Res Bool) : Prop :=
  ∃ (C fa : Addr) (fd : FuncData) (k : Nat) (ps : List Str) (S : Spc) (t : Value), FnD pr w K mg base k fa fd ps S ∧ Room (k + 1) A ∧ Meth K C "__eq__" fa ∧ PySem.W.findIn K (.ref C) "__ne__" = some (some (.builtin "object.__ne__")) ∧ ICls K C ∧ Binds K fd ps [] ∧
    (∀ M, IsI C "__eq__" M x) ∧ (∀ M, TyD K M y t) ∧ PySem.W.notFirst K C t = true ∧ ∀ (M : Mem) (P' : PK') (E' : XKx), m.Out (fun r => P' (.bl r) M) (fun _ => False) → S [x, y] M P' E'
section
variable {X : Cx} {T : Bool} {M : Mem} {P : PK'} {x y : Dat} {m : Res Bool} {Q : Bool → Prop} {E1 : Er → Prop}
end
end Kh

set_option Elab.async false
set_option linter.all false
set_option maxRecDepth 100000
set_option maxHeartbeats 1000000
namespace Kh
open PySem PySem.Spec L2
open PySem.SeqAt PySem.MeetsSeq PySem.MeetsSeq2 PySem.MeetsSeq3 PySem.SeqRoads2
open PySem.AutoSeq1 (wpAny_loadPart')
/-! ### tuples compared, whose items have an own == -/
theorem tuple_eqSt {prog : Program} {w : World} (l b : Addr) (items items2 : Array Value) (n n2 : Nat) (dd dd2 : Option Addr) (sl sl2 : Array (Option Value)) (I : Nat → Shared → Prop) (F : Shared → Prop) :
    MeetsIn prog w (Builtin.«tuple.__eq__» ⟨[.ref l, .ref b], []⟩)
      (fun A R s => s.heap.get? l = some { cls := .type "tuple", dict := dd, data := .seq items n, slots := sl } ∧ s.heap.get? b = some { cls := .type "tuple", dict := dd2, data := .seq items2 n2, slots := sl2 } ∧ I 0 s ∧
        (∀ j (h1 : j < items.size) (h2 : j < items2.size) (s' : Shared), I j s' → ∀ (Q : Bool → Shared → Prop), (∀ t s'', (t = true → I (j + 1) s'') → (t = false → F s'') → Q t s'') → wpAny (model prog w) A.in1 (eqBool items[j] items2[j]) Q (fun e s'' => R (.error e) s'') s') ∧
        (∀ s', I (min items.size items2.size) s' → R (.ok (.ret (.bool (items.size == items2.size)))) s') ∧ (∀ s', F s' → R (.ok (.ret (.bool false))) s')) :=
  .of_wp fun A R s h => by
    obtain ⟨hp, g, d, tk, os⟩ := s; obtain ⟨hl, hb, h0, he, hfin, hno⟩ := h
    have f2 := AutoSeq1.sub_tuple_tuple
    have hZ : (items.toList.zip items2.toList).length = min items.size items2.size := by simp
    wp_walk using wpAny_loadPart' hl, wpAny_loadPart' hb, wpAny_forIn_list _ (fun rest b s' => b.1 = none ∧ ∃ i, rest = (items.toList.zip items2.toList).drop i ∧ i ≤ min items.size items2.size ∧ I i s') _
    case turn =>
      rintro ⟨y, x⟩ rest b s' ⟨hb', i, hz, hle, hI⟩
      have hlt : i < (items.toList.zip items2.toList).length := by
        rcases Nat.lt_or_ge i (items.toList.zip items2.toList).length with h' | h'
        · exact h'
        · rw [List.drop_of_length_le h'] at hz; cases hz
      have hm : i < min items.size items2.size := hZ ▸ hlt
      have h1 : i < items.size := Nat.lt_of_lt_of_le hm (Nat.min_le_left _ _)
      have h2 : i < items2.size := Nat.lt_of_lt_of_le hm (Nat.min_le_right _ _)
      rw [List.drop_eq_getElem_cons hlt] at hz
      injection hz with hyx hrest
      have hy : y = items[i] := by have := congrArg Prod.fst hyx; simpa using this
      have hx : x = items2[i] := by have := congrArg Prod.snd hyx; simpa using this
      subst hy hx
      refine wpAny_bind (he i h1 h2 s' hI _ ?_)
      intro t s'' hT hF
      cases t with
      | true =>
        have hT := hT rfl
        wp_walk
        exact ⟨rfl, i + 1, hrest, hm, hT⟩
      | false =>
        have hF := hno _ (hF rfl)
        wp_walk
        exact ⟨_, rfl, by simpa using hF⟩
    case fin =>
      rintro ⟨b1, b2⟩ s' ⟨hb', i, hz, hle, hI⟩
      simp only at hb'
      subst hb'
      have hge : min items.size items2.size ≤ i := by
        rcases Nat.lt_or_ge i (items.toList.zip items2.toList).length with h' | h'
        · rw [List.drop_eq_getElem_cons h'] at hz; cases hz
        · exact hZ ▸ h'
      have hi : i = min items.size items2.size := Nat.le_antisymm hle hge
      subst hi
      have hR := hfin _ hI
      wp_walk
      exact ⟨_, rfl, by simpa [Builtin.Tuple.tupleCompareSizes] using hR⟩
    case h =>
      exact ⟨rfl, 0, rfl, Nat.zero_le _, h0⟩
/-- what a tuple's == answers, item by item -/
def eqV {α : Type} (me : α → α → Res Bool) : List α → List α → Res Bool
  | [], [] => .ok true
  | x :: xs, y :: ys => (me x y).bind fun t => cond t (eqV me xs ys) (.ok false)
  | _, _ => .ok false
theorem vals_get {vs : List V} {us : List Value} (r : Vals vs us) : ∀ {j : Nat} {a : Addr}, vs[j]? = some (.ref a) → us[j]? = some (.ref a) := by
  induction r with
  | nil => intro j a h; simp at h
  | cons h t ih =>
    intro j a e
    cases j with
    | zero =>
      simp at e; subst e
      obtain rfl := h
      rfl
    | succ j => simpa using ih (by simpa using e)
theorem eqV_end {α : Type} {me : α → α → Res Bool} {xs ys : List α} : eqV me (xs.drop (min xs.length ys.length)) (ys.drop (min xs.length ys.length)) = .ok (xs.length == ys.length) := by
  rcases Nat.lt_trichotomy xs.length ys.length with h | h | h
  · rw [Nat.min_eq_left (by omega), List.drop_length]
    rw [List.drop_eq_getElem_cons h]
    simp [eqV]; omega
  · rw [h, Nat.min_self, ← h, List.drop_length, h, List.drop_length]
    simp [eqV]
  · rw [Nat.min_eq_right (by omega), List.drop_length]
    rw [List.drop_eq_getElem_cons h]
    simp [eqV]; omega
section
variable {X : Cx} {T : Bool} {M : Mem} {P : PK'} {α : Type} {f : α → Dat} {me : α → α → Res Bool} {xs ys : List α} {Q1 : Bool → Prop} {E1 : Er → Prop}
theorem o_eqTup (hel : ∀ x y, EqO X.prog X.w X.K X.mg X.base X.A.in1 (f x) (f y) (me x y)) (hR : ∀ x, isR (f x) = true) (inj : ∀ (G : Hp) x y a, Den X.K G (f x) (.ref a) → Den X.K G (f y) (.ref a) → x = y) (hs : ∀ x, me x x = .ok true)
    (hu : X.A.units + 64 < cLine) (h : (eqV me xs ys).ne.Out Q1 E1) (hk : ∀ b, Q1 b → P (.bl b) M) : OP X T (compareOp .Eq) (.tup (xs.map f)) (.tup (ys.map f)) M P := by
  intro G H v u hH dx dy Q hQ pins s σ v' u' _ I r r'
  obtain ⟨a, vs, rfl, ga, da⟩ := dx.tup_inv
  obtain ⟨b, us, rfl, gb, db⟩ := dy.tup_inv
  cases r; cases r'
  obtain ⟨ws, r1, p1, _⟩ := I.tuple (SqT.of (hH.sub _ _ ga))
  obtain ⟨zs, r2, p2, _⟩ := I.tuple (SqT.of (hH.sub _ _ gb))
  have hw : ws.length = xs.length := by rw [← r1.length, da.length, List.length_map]
  have hz : zs.length = ys.length := by rw [← r2.length, db.length, List.length_map]
  have h : (eqV me xs ys).Out Q1 (fun _ => False) := ne_out h
  obtain ⟨⟨cls, dd, data, sl⟩, ho, hc, n, hd⟩ := id p1
  obtain ⟨⟨cls2, dd2, data2, sl2⟩, ho2, hc2, n2, hd2⟩ := id p2
  simp only at hc hd hc2 hd2
  subst hc hd hc2 hd2
  refine wpAny_richCompare_same_room (T := "tuple") (op := .Eq) ⟨_, ho, rfl⟩ ⟨_, ho2, rfl⟩ F.slot_tuple_eq (call_meetsIn F.slot_tuple_eq ⟨_, ho, rfl⟩ F.entry_tuple_eq (F.args_tuple_eq_2 _ _)
    (tuple_eqSt a b ws.toArray zs.toArray n n2 dd dd2 sl sl2 (fun j s' => ∃ H' G', Inv X pins σ H' s' ∧ Stp G M H G' M H' ∧ Hst X.K G' M H' ∧ (eqV me (xs.drop j) (ys.drop j)).Out Q1 (fun _ => False))
      (fun s' => ∃ H' G', Inv X pins σ H' s' ∧ Stp G M H G' M H' ∧ Hst X.K G' M H' ∧ Q1 false)) ⟨ho, ho2, ⟨H, G, I, Stp.refl, hH, h⟩, ?_, ?_, ?_⟩) (by omega)
  · intro j h1 h2 s' ⟨H', G', I', st, hst, hq⟩ Qb hQb
    have j1 : j < xs.length := by rw [← hw]; simpa using h1
    have j2 : j < ys.length := by rw [← hz]; simpa using h2
    rw [List.drop_eq_getElem_cons j1, List.drop_eq_getElem_cons j2] at hq
    obtain ⟨v1, e1, d1⟩ := da.get (show (xs.map f)[j]? = some (f xs[j]) by rw [List.getElem?_map, List.getElem?_eq_getElem j1]; rfl)
    obtain ⟨v2, e2, d2⟩ := db.get (show (ys.map f)[j]? = some (f ys[j]) by rw [List.getElem?_map, List.getElem?_eq_getElem j2]; rfl)
    obtain ⟨a1, rfl⟩ := den_isR (hR _) d1
    obtain ⟨a2, rfl⟩ := den_isR (hR _) d2
    have w1 : ws.toArray[j] = .ref a1 := by
      have := vals_get r1 e1
      rw [List.getElem?_eq_getElem (by rw [hw]; exact j1)] at this
      simpa using this
    have w2 : zs.toArray[j] = .ref a2 := by
      have := vals_get r2 e2
      rw [List.getElem?_eq_getElem (by rw [hz]; exact j2)] at this
      simpa using this
    rw [w1, w2]
    generalize xs[j] = x at hq d1
    generalize ys[j] = y at hq d2
    by_cases e : a1 = a2
    · subst e
      obtain rfl := inj _ _ _ _ d1 d2
      have hq : ((me x x).bind fun t => cond t (eqV me (xs.drop (j + 1)) (ys.drop (j + 1))) (.ok false)).Out Q1 (fun _ => False) := hq
      rw [hs x, bind_ok, cond_true] at hq
      exact EqAt.same (A := X.A.in1) (s := s') (.ref a1) X.prog X.w _ Qb (hQb true s' (fun _ => ⟨H', G', I', st, hst, hq⟩) (fun z => nomatch z))
    · unfold eqBool
      refine wpAny_holding ?_
      refine wpAny_ite_split (fun hab => absurd (by have := eq_of_beq hab; injection this) e) (fun _ => ?_)
      obtain ⟨C, fa, fd, k, ps, S, t, FF, hrm, mt, _, _, hb, hx, ty, hn, hS⟩ := hel x y
      have dx' := d1.up st.gg
      have dy' := d2.up st.gg
      obtain ⟨a', dxa, fs, ea', ea, _⟩ := (hx M).get hst dx'
      cases ea'
      obtain ⟨mA, J, _⟩ := ins_get I'.hok ea
      obtain ⟨od, J, _⟩ := J.look
      obtain ⟨m, hF⟩ := I'.fr
      have ry : RelV (.ref a2) (Value.ref a2) := rfl
      obtain ⟨Pr, Z, pz, _⟩ := kit_of I' ry (tyD_ok (ty M) hst dy')
      refine wpAny_bind ?_
      have hq2 : (me x y).Out (fun t => (cond t (eqV me (xs.drop (j + 1)) (ys.drop (j + 1))) (.ok false)).Out Q1 (fun _ => False)) (fun _ => False) := ob hq
      have hsp : toSp X.K S [.ref a1, .ref a2] H' (fun z H2 => ∃ t, z = .bl t ∧ ∃ G2, Stp G M H G2 M H2 ∧ Hst X.K G2 M H2 ∧ (cond t (eqV me (xs.drop (j + 1)) (ys.drop (j + 1))) (.ok false)).Out Q1 (fun _ => False)) (fun _ _ _ => False) :=
        ap_toSp (ap_all (hS M (UpP fun d M2 => ∃ t, d = .bl t ∧ M2 = M ∧ (cond t (eqV me (xs.drop (j + 1)) (ys.drop (j + 1))) (.ok false)).Out Q1 (fun _ => False)) (UpP E0') (out_mono hq2 (fun t q => UpP.mk ⟨t, rfl, rfl, q⟩) fun _ z => z))) (.cons dx' (.cons dy' .nil)) hst
          (fun d M2 z G2 H2 ⟨t, ed, em, hp⟩ s2 h2 dz => by subst ed; subst em; exact ⟨t, dz.bl_inv, G2, st.trans s2, h2, hp⟩) noX
      refine PySem.W.cmp_K (op := .Eq) (tb := t) hrm.units0 hF I'.ok.mod.kin J (Z.ty _ _ I'.kIn pz) hn mt.1 mt.2 ?_
      refine wpAny_mono (run_dA (W := fun _ _ _ _ => False) (us := [.ref a1, .ref a2]) (vs := [.ref a1, .ref a2]) FF (hrm.mono (Nat.le_succ _)) I'.env0.in1 hb takes0 I' (.cons rfl (.cons rfl .nil)) hsp) (fun r s2 q => ?_) fun _ _ z => z
      obtain ⟨z, H2, I2, rz, t2, ez, G2, st2, hst2, q⟩ := q
      subst ez
      cases rz
      refine wpAny_truthy_bool (hQb t2 s2 (fun e => ?_) (fun e => ?_))
      · subst e; exact ⟨H2, G2, I2, st2, hst2, q⟩
      · subst e; exact ⟨H2, G2, I2, st2, hst2, q⟩
  · intro s' ⟨H', G', I', st, hst, hq⟩
    have e : min ws.toArray.size zs.toArray.size = min xs.length ys.length := by simp [hw, hz]
    rw [e, eqV_end] at hq
    refine ⟨(fun z => nomatch z), ?_⟩
    have e2 : (ws.toArray.size == zs.toArray.size) = (xs.length == ys.length) := by simp [hw, hz]
    rw [e2]
    exact ⟨.bl _, H', I', rfl, hQ _ _ _ _ _ (hk _ hq) st hst den_bl⟩
  · intro s' ⟨H', G', I', st, hst, hq⟩
    exact ⟨(fun z => nomatch z), ⟨.bl _, H', I', rfl, hQ _ _ _ _ _ (hk _ hq) st hst den_bl⟩⟩
end
/-! instances at one place -/
theorem den_obj_int {K : PySem.W.Frag} {G : Hp} {C C' a : Addr} {f f' : Str} {n m : Int} (d1 : Den K G (.obj C [f] [.int n]) (.ref a)) (d2 : Den K G (.obj C' [f'] [.int m]) (.ref a)) : C = C' ∧ n = m := by
  obtain ⟨a1, x1, v1, e1, g1, _, l1⟩ := d1.obj_inv
  obtain ⟨a2, x2, v2, e2, g2, _, l2⟩ := d2.obj_inv
  cases e1; cases e2
  obtain ⟨v1, r1, rfl, h1, l1⟩ := l1.cons_inv
  obtain ⟨v2, r2, rfl, h2, l2⟩ := l2.cons_inv
  rw [h1.int_inv] at g1; rw [h2.int_inv] at g2
  rw [g1] at g2
  simp at g2
  exact ⟨g2.1, g2.2.2.2⟩
theorem den_obj_cls {K : PySem.W.Frag} {G : Hp} {C C' a : Addr} {ns ns' : List Str} {ds ds' : List Dat} (d1 : Den K G (.obj C ns ds) (.ref a)) (d2 : Den K G (.obj C' ns' ds') (.ref a)) : C = C' := by
  obtain ⟨a1, x1, v1, e1, g1, _, l1⟩ := d1.obj_inv
  obtain ⟨a2, x2, v2, e2, g2, _, l2⟩ := d2.obj_inv
  cases e1; cases e2
  rw [g1] at g2
  injection g2 with g2
  injection g2
theorem cls_ne {K : PySem.W.Frag} {C D : Addr} (h1 : PySem.W.kitOne K (.ref C) (.ref D) = some false) (h2 : PySem.W.kitOne K (.ref D) (.ref D) = some true) (e : C = D) : False := by
  subst e; rw [h1] at h2; cases h2
/-! ### tuples joined and cut -/
theorem denL_nil0 {K : PySem.W.Frag} {G : Hp} {ds : List Dat} (h : DenL K G ds []) : ds = [] := by
  have := h.length; simp at this; exact List.eq_nil_of_length_eq_zero this.symm
section
variable {X : Cx} {T : Bool} {M : Mem} {P : PK'} {α : Type} {E1 : Er → Prop}
theorem o_catT {xs ys : List Dat} (hl : xs.length + ys.length ≤ sizeLine) (h : P (.tup (xs ++ ys)) M) : OP X T (binaryOp .Add) (.tup xs) (.tup ys) M P := op_of op_catA fun G H v u hH dx dy Q hP => by
  obtain ⟨p, vs, rfl, g1, d1⟩ := dx.tup_inv
  obtain ⟨q, us, rfl, g2, d2⟩ := dy.tup_inv
  refine ⟨p, q, vs, us, rfl, rfl, SqT.of (hH.sub _ _ g1), SqT.of (hH.sub _ _ g2), by rw [d1.length, d2.length]; exact hl, ?_, ?_, fun _ _ r hr => ?_⟩
  · intro e
    subst e
    obtain rfl := denL_nil0 d1
    exact hP _ _ _ _ _ h Stp.refl hH dy
  · intro _ e
    subst e
    obtain rfl := denL_nil0 d2
    rw [List.append_nil] at h
    exact hP _ _ _ _ _ h Stp.refl hH dx
  · obtain ⟨s2, h2⟩ := Stp.new (o := .tup (vs ++ us)) hH hr
    exact hP _ _ _ _ _ h s2 h2 (den_tup upd_same ((d1.append d2).up s2.gg))
theorem r_catT (f : α → Dat) {xs ys : List α} {Q : List α → Prop} (h : (pcatL xs ys).Out Q E1) (hk : ∀ z, Q z → P (vtpD f z) M) : OP X T (binaryOp .Add) (vtpD f xs) (vtpD f ys) M P :=
  o_catT (by rw [List.length_map, List.length_map]; exact (gd h).1) (by rw [← List.map_append]; exact hk _ (gd h).2)
theorem l_tupA {ds : List Dat} {lo hi : Option Int} (h : P (.tup (cutD ds lo hi)) M) : SQ X (.tup ds) lo hi M P := ⟨_, sl_tupA, fun G H v hH dx Q hP => by
  obtain ⟨p, vs, rfl, g, dl⟩ := dx.tup_inv
  refine ⟨p, vs, rfl, SqT.of (hH.sub _ _ g), fun hw => ?_, fun _ r hr => ?_⟩
  · rw [dl.length] at hw
    have e : cutD ds lo hi = ds := by
      unfold cutD
      rw [hw.1, hw.2, List.drop_zero, Nat.sub_zero, List.take_length]
    rw [e] at h
    exact hP _ _ _ _ _ h Stp.refl hH dx
  · obtain ⟨s2, h2⟩ := Stp.new (o := .tup (cutV vs lo hi)) hH hr
    exact hP _ _ _ _ _ h s2 h2 (den_tup upd_same ((denL_cut dl).up s2.gg))⟩
theorem l_tupT2 (f : α → Dat) {xs : List α} {lo hi : Option Int} (h : P (vtpD f (cutD xs lo hi)) M) : SQ X (vtpD f xs) lo hi M P := l_tupA (by rw [cutD_map]; exact h)
end
end Kh

set_option Elab.async false
set_option linter.all false
set_option maxRecDepth 100000
set_option maxHeartbeats 1000000
namespace Kh
open PySem PySem.Spec L2
/-! ### bits -/
section
variable {X : Cx} {T : Bool} {M : Mem} {P : PK'} {E1 : Er → Prop} {i j : Int}
def pshl (i j : Int) : Res Int := guard (0 ≤ j ∧ j ≤ 1000000 ∧ i.natAbs < 2 ^ 64) (i * 2 ^ j.toNat)
def pshr (i j : Int) : Res Int := guard (0 ≤ j) (i / 2 ^ j.toNat)
theorem r_shl {Q : Int → Prop} (h : (pshl i j).Out Q E1) (hk : ∀ z, Q z → P (.int z) M) : OP X T (binaryOp .LShift) (.int i) (.int j) M P := o_shl (gd h).1 (hk _ (gd h).2)
theorem r_shr {Q : Int → Prop} (h : (pshr i j).Out Q E1) (hk : ∀ z, Q z → P (.int z) M) : OP X T (binaryOp .RShift) (.int i) (.int j) M P := o_shr (gd h).1 (hk _ (gd h).2)
end
/-! ### sorted(set(pairs)) -/
def ltP2 (p q : Int × Int) : Prop := p.1 < q.1 ∨ (p.1 = q.1 ∧ p.2 < q.2)
instance {p q : Int × Int} : Decidable (ltP2 p q) := inferInstanceAs (Decidable (_ ∨ _))
def insU (p : Int × Int) : List (Int × Int) → List (Int × Int)
  | [] => [p]
  | q :: r => if p = q then q :: r else if ltP2 p q then p :: q :: r else q :: insU p r
def sortU : List (Int × Int) → List (Int × Int)
  | [] => []
  | p :: r => insU p (sortU r)
theorem ltP2_irr (p : Int × Int) : ¬ ltP2 p p := by unfold ltP2; omega
theorem ltP2_asy {p q : Int × Int} (h : ltP2 p q) : ¬ ltP2 q p := by unfold ltP2 at *; omega
theorem ltP2_tr {p q r : Int × Int} (h : ltP2 p q) (g : ltP2 q r) : ltP2 p r := by unfold ltP2 at *; omega
theorem ltP2_tot {p q : Int × Int} (h : p ≠ q) (g : ¬ ltP2 p q) : ltP2 q p := by
  unfold ltP2 at *
  have : p.1 ≠ q.1 ∨ p.2 ≠ q.2 := by
    by_cases a : p.1 = q.1
    · right; exact fun b => h (Prod.ext a b)
    · left; exact a
  omega
theorem mem_insU {p x : Int × Int} : ∀ {l : List (Int × Int)}, x ∈ insU p l ↔ x = p ∨ x ∈ l
  | [] => by simp [insU]
  | q :: r => by
    unfold insU
    by_cases a : p = q
    · rw [if_pos a]; subst a; simp
    · rw [if_neg a]
      by_cases b : ltP2 p q
      · rw [if_pos b]; simp
      · rw [if_neg b, List.mem_cons, mem_insU, List.mem_cons]
        constructor
        · rintro (h | h | h)
          · exact .inr (.inl h)
          · exact .inl h
          · exact .inr (.inr h)
        · rintro (h | h | h)
          · exact .inr (.inl h)
          · exact .inl h
          · exact .inr (.inr h)
theorem mem_sortU {x : Int × Int} : ∀ {l : List (Int × Int)}, x ∈ sortU l ↔ x ∈ l
  | [] => by simp [sortU]
  | p :: r => by rw [sortU, mem_insU, mem_sortU, List.mem_cons]
theorem srt_insU {p : Int × Int} : ∀ {l : List (Int × Int)}, l.Pairwise ltP2 → (insU p l).Pairwise ltP2
  | [], _ => by unfold insU; simp
  | q :: r, h => by
    have h1 := List.pairwise_cons.mp h
    unfold insU
    by_cases a : p = q
    · rw [if_pos a]; exact h
    · rw [if_neg a]
      by_cases b : ltP2 p q
      · rw [if_pos b]
        exact List.pairwise_cons.mpr ⟨fun x hx => by
          rcases List.mem_cons.mp hx with e | e
          · rw [e]; exact b
          · exact ltP2_tr b (h1.1 x e), h⟩
      · rw [if_neg b]
        exact List.pairwise_cons.mpr ⟨fun x hx => by
          rcases mem_insU.mp hx with e | e
          · rw [e]; exact ltP2_tot a b
          · exact h1.1 x e, srt_insU h1.2⟩
theorem srt_sortU : ∀ {l : List (Int × Int)}, (sortU l).Pairwise ltP2
  | [] => by simp [sortU]
  | p :: r => by rw [sortU]; exact srt_insU srt_sortU
theorem srt_uniq : ∀ {l m : List (Int × Int)}, l.Pairwise ltP2 → m.Pairwise ltP2 → (∀ x, x ∈ l ↔ x ∈ m) → l = m
  | [], [], _, _, _ => rfl
  | [], b :: m, _, _, h => by have := (h b).mpr List.mem_cons_self; simp at this
  | a :: l, [], _, _, h => by have := (h a).mp List.mem_cons_self; simp at this
  | a :: l, b :: m, h1, h2, h => by
    have p1 := List.pairwise_cons.mp h1
    have p2 := List.pairwise_cons.mp h2
    have e : a = b := by
      rcases List.mem_cons.mp ((h a).mp List.mem_cons_self) with e | e
      · exact e
      · rcases List.mem_cons.mp ((h b).mpr List.mem_cons_self) with g | g
        · exact g.symm
        · exact absurd (p2.1 a e) (ltP2_asy (p1.1 b g))
    subst e
    rw [srt_uniq p1.2 p2.2 fun x => ⟨fun hx => by
      rcases List.mem_cons.mp ((h x).mp (List.mem_cons_of_mem _ hx)) with q | q
      · subst q; exact absurd (p1.1 _ hx) (ltP2_irr _)
      · exact q, fun hx => by
      rcases List.mem_cons.mp ((h x).mpr (List.mem_cons_of_mem _ hx)) with q | q
      · subst q; exact absurd (p2.1 _ hx) (ltP2_irr _)
      · exact q⟩]
theorem code2 {B x y : Int} : TS.code B [x, y] = x * B + y := by
  have e1 : B ^ 1 = B := Int.pow_one B
  have e0 : B ^ 0 = 1 := Int.pow_zero B
  show x * B ^ 1 + (y * B ^ 0 + 0) = x * B + y
  rw [e1, e0, Int.mul_one, Int.add_zero]
theorem code_lt {B : Int} {p q : Int × Int} (hp : 0 ≤ p.2 ∧ p.2 < B) (hq : 0 ≤ q.2 ∧ q.2 < B) (ne : p ≠ q) (h : TS.code B [p.1, p.2] ≤ TS.code B [q.1, q.2]) : ltP2 p q := by
  rw [code2, code2] at h
  unfold ltP2
  rcases Int.lt_trichotomy p.1 q.1 with c | c | c
  · exact .inl c
  · refine .inr ⟨c, ?_⟩
    have : p.2 ≠ q.2 := fun e => ne (Prod.ext c e)
    rw [c] at h
    omega
  · have : (q.1 + 1) * B ≤ p.1 * B := Int.mul_le_mul_of_nonneg_right (by omega) (by omega)
    rw [Int.add_mul] at this
    omega
theorem bound_of : ∀ rows : List (Int × Int), ∃ B : Int, 0 < B ∧ ∀ p ∈ rows, p.1 < B ∧ p.2 < B
  | [] => ⟨1, by decide, fun p h => by simp at h⟩
  | q :: r => by
    obtain ⟨B, h0, h⟩ := bound_of r
    refine ⟨B + (if 0 ≤ q.1 then q.1 else 0) + (if 0 ≤ q.2 then q.2 else 0) + 1, by split <;> split <;> omega, fun p hp => ?_⟩
    rcases List.mem_cons.mp hp with e | e
    · rw [e]; split <;> split <;> omega
    · have := h p e; split <;> split <;> omega
abbrev ipD : Int × Int → Dat := pairD Dat.int Dat.int
abbrev ipL (p : Int × Int) : List Int := [p.1, p.2]
theorem pairs_refs {K : PySem.W.Frag} {G : Hp} : ∀ {rows : List (Int × Int)} {vs : List V}, DenL K G (rows.map ipD) vs → ∃ ks : List (Addr × List Int), vs = ks.map (fun p => V.ref p.1) ∧ ks.map (·.2) = rows.map ipL ∧ ∀ p ∈ ks, G p.1 = some (.tup (p.2.map V.int))
  | [], vs, h => ⟨[], by rw [h.nil_inv]; rfl, rfl, fun p hp => by simp at hp⟩
  | (x, y) :: rows, vs, h => by
    obtain ⟨v, r, rfl, hv, hr⟩ := h.cons_inv
    obtain ⟨ks, e1, e2, e3⟩ := pairs_refs hr
    obtain ⟨b, us, rfl, g, dl⟩ := hv.tup_inv
    obtain ⟨u1, r1, rfl, h1, dl⟩ := dl.cons_inv
    obtain ⟨u2, r2, rfl, h2, dl⟩ := dl.cons_inv
    rw [dl.nil_inv, h1.int_inv, h2.int_inv] at g
    refine ⟨(b, [x, y]) :: ks, by rw [e1]; rfl, by rw [List.map_cons, e2]; rfl, fun p hp => ?_⟩
    rcases List.mem_cons.mp hp with e | e
    · rw [e]; exact g
    · exact e3 p e
theorem refs_pairs {K : PySem.W.Frag} {G : Hp} : ∀ {rows : List (Int × Int)} {ks : List (Addr × List Int)}, ks.map (·.2) = rows.map ipL → (∀ p ∈ ks, G p.1 = some (.tup (p.2.map V.int))) → DenL K G (rows.map ipD) (ks.map fun p => V.ref p.1)
  | [], [], _, _ => .nil
  | [], _ :: _, h, _ => by simp at h
  | _ :: _, [], h, _ => by simp at h
  | (x, y) :: rows, (b, l) :: ks, h, g => by
    rw [List.map_cons, List.map_cons] at h
    injection h with h1 h2
    have g1 := g (b, l) List.mem_cons_self
    have h1 : l = [x, y] := h1
    rw [h1] at g1
    exact .cons (den_tup (ds := [.int x, .int y]) g1 (.cons den_int (.cons den_int .nil))) (refs_pairs h2 fun p hp => g p (List.mem_cons_of_mem _ hp))
section
variable {X : Cx} {T : Bool} {τ : TEnv} {M : Mem} {P : PK'} {E : XKx} {e : Expr} {p1 p2 pos1 pos2 : Pos}
theorem ex_srtSet (hm1 : X.mg "sorted" = none) (hm2 : X.mg "set" = none) (h : EX X T e τ M (fun d M1 => ∃ rows : List (Int × Int), d = lstD ipD rows ∧ (rows.length < 64 ∧ ∀ p ∈ rows, 0 ≤ p.1 ∧ 0 ≤ p.2) ∧ P (lstD ipD (sortU rows)) M1) E) (hu : X.A.units + 64 < cLine) (hc : X.calm = true := by rfl)
    (hg1 : Gl X "sorted" := by rfl) (hg2 : Gl X "set" := by rfl) (he1 : starEach [.Call (.Name "set" p2) [e] [] pos2] X.env = (false, eval (.Call (.Name "set" p2) [e] [] pos2) X.env) :: starEach [] X.env := by rfl) (he2 : starEach [e] X.env = (false, eval e X.env) :: starEach [] X.env := by rfl)
    (hp1 : (backTo pos1 (starEach [] X.env)).any (·.1) = false := by rfl) (hp2 : (backTo pos2 (starEach [] X.env)).any (·.1) = false := by rfl) :
    EX X T (.Call (.Name "sorted" p1) [.Call (.Name "set" p2) [e] [] pos2] [] pos1) τ M P E := by
  refine .mk ?_; intro W tk σ G H hE hH Q hP hX pins s k I
  have hA : tWA X T [.Call (.Name "set" p2) [e] [] pos2] σ H (fun vs H1 => rSortedT X.K X.prog X.w vs H1 Q) := by
    refine wa_cons (Q := fun vs H1 => rSortedT X.K X.prog X.w vs H1 Q) he1 ?_
    intro pins s k I
    have hB : tWA X T [e] σ H (fun vs H1 => rSetOfT X.K X.prog X.w vs H1 (fun x H2 => tWA X T [] σ H2 fun xs H3 => rSortedT X.K X.prog X.w (x :: xs) H3 Q)) := by
      refine wa_cons (Q := fun vs H1 => rSetOfT X.K X.prog X.w vs H1 (fun x H2 => tWA X T [] σ H2 fun xs H3 => rSortedT X.K X.prog X.w (x :: xs) H3 Q)) he2 ?_
      refine h.run W tk σ G H hE hH _ ?_ hX
      intro d M1 v G1 H1 ⟨rows, ed, ⟨hl, hnn⟩, hp⟩ s1 h1 dv
      subst ed
      refine tWA_of pa_nil ?_
      obtain ⟨l, vs, rfl, ga, da⟩ := dv.lst_inv
      obtain ⟨ks, rfl, e2, e3⟩ := pairs_refs da
      have hlen : ks.length = rows.length := by have := congrArg List.length e2; simpa using this
      refine ⟨l, ks, rfl, h1.sub.seq (SqL.of ga), fun p hp => SqT.of (h1.sub _ _ (e3 p hp)), by omega, fun a L ha hL1 hL2 => ?_⟩
      refine tWA_of pa_nil ?_
      obtain ⟨B, hB0, hB⟩ := bound_of rows
      have form : ∀ p ∈ ks, ∃ r ∈ rows, p.2 = ipL r := fun p hp => by
        have : p.2 ∈ ks.map (·.2) := List.mem_map_of_mem hp
        rw [e2] at this
        obtain ⟨r, hr, e⟩ := List.mem_map.mp this
        exact ⟨r, hr, e.symm⟩
      obtain ⟨sA, hA⟩ := Stp.new (o := SetTO X.prog X.w a L) h1 ha
      refine ⟨a, L, 2, B, rfl, upd_same, fun p hp => SqT.of (hA.sub _ _ (sA.gg _ _ (e3 p (hL1 p hp)))), by decide, fun p hp => ?_, fun L' q pm nd hf pw hq => ?_⟩
      · obtain ⟨r, hr, e⟩ := form p (hL1 p hp)
        rw [e]
        refine ⟨rfl, fun m hm => ?_⟩
        have b1 := hB r hr
        have b2 := hnn r hr
        simp at hm
        rcases hm with rfl | rfl <;> omega
      · obtain ⟨sB, hBB⟩ := Stp.new (o := .lst (L'.map fun q => V.ref q.1)) hA hq
        have hin : ∀ p ∈ L', p ∈ ks := fun p hp => hL1 p (pm.mem_iff.mp hp)
        have hr2 : ∃ rows' : List (Int × Int), L'.map (·.2) = rows'.map ipL ∧ ∀ r ∈ rows', r ∈ rows := by
          clear pm nd hf pw hq sB hBB
          induction L' with
          | nil => exact ⟨[], rfl, fun r h => by simp at h⟩
          | cons p L' ih =>
            obtain ⟨rs, f1, f2⟩ := ih fun p hp => hin p (List.mem_cons_of_mem _ hp)
            obtain ⟨r, hr, e⟩ := form p (hin p List.mem_cons_self)
            exact ⟨r :: rs, by rw [List.map_cons, List.map_cons, f1, e], fun x hx => by
              rcases List.mem_cons.mp hx with g | g
              · rw [g]; exact hr
              · exact f2 x g⟩
        obtain ⟨rows', f1, f2⟩ := hr2
        have inj : ∀ x y : Int × Int, ipL x = ipL y → x = y := fun x y e => by
          injection e with a b; injection b with b _; exact Prod.ext a b
        have nd' : rows'.Nodup := by
          rw [f1] at nd
          exact List.Pairwise.of_map ipL (fun _ _ h e => h (by rw [e])) nd
        have pw' : rows'.Pairwise ltP2 := by
          have pw2 : (L'.map (·.2)).Pairwise (fun u v => TS.code B u ≤ TS.code B v) := List.pairwise_map.mpr pw
          rw [f1] at pw2
          have pw3 := List.pairwise_map.mp pw2
          refine (List.pairwise_iff_forall_sublist.mpr ?_)
          intro x y hs
          have hx : x ∈ rows' := hs.subset (by simp)
          have hy : y ∈ rows' := hs.subset (by simp)
          have ne : x ≠ y := fun e => by
            subst e
            have := nd'.sublist hs
            simp at this
          have c := List.pairwise_iff_forall_sublist.mp pw3 hs
          have bx := hB x (f2 x hx); have by' := hB y (f2 y hy)
          have nx := hnn x (f2 x hx); have ny := hnn y (f2 y hy)
          exact code_lt ⟨nx.2, bx.2⟩ ⟨ny.2, by'.2⟩ ne c
        have same : rows' = sortU rows := srt_uniq pw' srt_sortU fun x => by
          rw [mem_sortU]
          refine ⟨f2 x, fun hx => ?_⟩
          have h1 : ipL x ∈ ks.map (·.2) := by rw [e2]; exact List.mem_map_of_mem hx
          obtain ⟨p, hp, e⟩ := List.mem_map.mp h1
          have h2 : p.2 ∈ L.map (·.2) := hL2 p hp
          obtain ⟨p', hp', e'⟩ := List.mem_map.mp h2
          have h3 : p'.2 ∈ L'.map (·.2) := List.mem_map_of_mem (pm.mem_iff.mpr hp')
          rw [f1] at h3
          obtain ⟨z, hz, ez⟩ := List.mem_map.mp h3
          have : z = x := inj _ _ (by rw [ez, e', e])
          rw [← this]; exact hz
        rw [← same] at hp
        exact hP _ _ _ _ _ hp ((s1.trans sA).trans sB) hBB (den_lst upd_same (refs_pairs f1 fun p hp => sB.gg _ _ (sA.gg _ _ (e3 p (hin p hp)))))
    refine wpAny_Call_Name_kw (ld_blt I hg2 hm2 PyProof.Rows.Boot.«set» ?_ (by decide) (by decide))
    exact PyProof.Rows.callWith_type1 (thn (hB pos2 pins s k I) fun us s1 ⟨vs, H1, I1, r1, q1⟩ => cr_setOfT hc hu pins s1 σ H1 vs us _ I1 r1 q1) he2 hp2
  refine wpAny_Call_Name_kw (ld_blt I hg1 hm1 PyProof.Rows.Boot.«sorted» ?_ (by decide) (by decide))
  exact PyProof.Rows.callWith_builtin1 (thn (hA pos1 pins s k I) fun us s1 ⟨vs, H1, I1, r1, q1⟩ => cr_sortedT hc pins s1 σ H1 vs us Q I1 r1 q1) he1 hp1
end
/-! ### for x in an instance whose __iter__ gives iter(a tuple of its own) -/
def itTObj (t : Addr) : Obj := { cls := .type "tuple_iterator", data := .fields #[.ref t, .int 0 0] }
def TItO (t it : Addr) : HO := .ext fun h => h.get? it = some (itTObj t)
theorem titO_ok {P : Program} {w : World} {H : Hp} {h : Heap} {t it : Addr} (e : h.get? it = some (itTObj t)) : ObjOk P w H h it (TItO t it) := ⟨e, ⟨_, e⟩, fun h1 h2 q k => k _ q⟩
theorem call_iterT {prog : Program} {w : World} {A : Around} {E : Value → Shared → Prop} {s : Shared} {t : Addr} {items : Array Value} {Q : Value → Shared → Prop} (ht : s.heap.IsTuple t items) (h : Q (.ref s.heap.objs.size) { s with heap := s.heap.push (itTObj t) }) : wpAny (model prog w) A (call (.builtin "iter") [.ref t]) Q E s := by
  refine Calls.call_function_entry (by decide +kernel) (by decide +kernel) PySem.W.kdk_entry_iter (PySem.W.kdk_args_iter _) ?_
  unfold Builtin.«iter»
  refine wpAny_bind (m := someArgs "iter" 1 2 _) (wpAny_of_eq (a := [Value.ref t]) (by first | rfl | kernel_rfl!) ?_)
  show wpAny _ _ (pyIter (.ref t) >>= _) _ _ _
  refine wpAny_bind (wpAny_pyIter_tuple ht ?_)
  exact wpAny_pure ⟨_, rfl, h⟩
def rIterT (K : PySem.W.Frag) (n : Nat) : List V → Hp → VK → Prop := fun xs H Q => ∃ (l : Addr) (zs : List V), xs = [.ref l] ∧ SqT K H l zs ∧ ∀ it, H it = Option.none → n ≤ it → Q (.ref it) (upd H it (TItO l it))
theorem cr_iterT {X : Cx} : CallR X (.builtin "iter") (rIterT X.K X.s_0.heap.objs.size) := by
  intro pins s σ H xs us Q I r h
  obtain ⟨l, zs, rfl, hq, q⟩ := h
  cases r with
  | cons r1 rr =>
    cases rr
    cases r1
    obtain ⟨its, rv, pl, hz⟩ := I.tuple hq
    refine call_iterT (show s.heap.IsTuple l its.toArray from pl) ?_
    exact ⟨.ref s.heap.objs.size, _, I.laid (t' := s.toks) (fun b u e => Heap.get?_push_of_some _ e) (Nat.le_refl _) (titO_ok (Heap.get?_push_size _ rfl)), rfl, q _ (I.hok.fresh (Nat.le_refl _)) I.sz⟩
theorem body_itT {X : Cx} {σ : L2.St} {H : Hp} {Q : VK} {a C dx : Addr} {fs : List (Str × V)} {nf : Str} {l : Addr} {zs : List V} {p1 p2 p3 p4 : Pos} (hN : X.N[0]? = some ("self" : Str)) (hvis : Vis X.env.scope "self") (hs : σ[0]? = some (some (.ref a))) (ha : H a = some (.ins C dx fs)) (hc : Cls X.K C) (hn : NoAttr X.K C nf) (hl : fs.lookup nf = some (.ref l)) (hz : SqT X.K H l zs)
    (hg : Gl X "iter") (hm : X.mg "iter" = none) (hQ : ∀ it, H it = none → X.s_0.heap.objs.size ≤ it → Q (.ref it) (upd H it (TItO l it)))
    (hab : attributeBase (.Name "self" p2) nf X.env (eval (.Name "self" p2) X.env) = eval (.Name "self" p2) X.env := by rfl) : tW X false (.Call (.Name "iter" p1) [.Attribute (.Name "self" p2) nf p3] [] p4) σ H Q := fun pins s k I => by
  have hA : tWA X false [.Attribute (.Name "self" p2) nf p3] σ H (fun vs H1 => rIterT X.K X.s_0.heap.objs.size vs H1 Q) :=
    wa_cons rfl (v_fld hab (tW_of (pe_var hN hvis (by decide) (by decide)) ⟨_, hs, a, C, dx, fs, .ref l, rfl, ha, hc, hn, hl, tWA_of pa_nil ⟨l, zs, rfl, hz, hQ⟩⟩))
  refine wpAny_Call_Name_kw (ld_blt I hg hm (show bootBuiltins "iter" = some (.builtin "iter") from by decide +kernel) ?_ (by decide) (by decide))
  exact PyProof.Rows.callWith_builtin1 (thn (hA p4 pins s k I) fun us s1 ⟨vs, H1, I1, r1, q1⟩ => cr_iterT pins s1 σ H1 vs us Q I1 r1 q1) rfl rfl
/-- for x in o, [.. for x in o], o an instance -/
theorem ei_ownT {X : Cx} {tg e : Expr} {τ : TEnv} {M : Mem} {E : XKx} {PI' : List Dat → Mem → (Mem → Prop) → Prop} {C fa : Addr} {fd : FuncData} {qual nf : Str} {st : Stmt} {N : List Str} {p1 p2 p3 p4 p5 : Pos}
    (F : Fun X.K "__iter__" qual st fa fd) (Sc : FnScope N ["self"] (defScope st)) (hbd : defBody st = [.Return (some (.Call (.Name "iter" p1) [.Attribute (.Name "self" p2) nf p3] [] p4)) p5]) (mt : Meth X.K C "__iter__" fa) (hcl : Cls X.K C) (hna : NoAttr X.K C nf) (hm : X.mg "iter" = none) (hr : Room 1 X.A) (hb : Binds X.K fd ["self"] [])
    (hN : N[0]? = some ("self" : Str)) (hvis : Vis (defScope st) "self") (hg : ∀ cdv s H, Gl (cxOf (L2.CX X.prog X.w) X.prog X.w X.K X.mg X.base N qual (defScope st) fa cdv X.A X.stack s H (fun _ _ _ => False)) "iter")
    (h : EX X false e τ M (fun d M1 => ∃ ds, d = .obj C [nf] [.tup ds] ∧ PI' ds M1 anyM) E) : EI X tg e τ M PI' E := .mk fun W tk σ G H hE hH R hR hX pins s _ I => by
  have hO := h.run W tk σ G H hE hH (fun v H1 => ∃ a dx z zs, v = .ref a ∧ H1 a = some (.ins C dx [(nf, .ref z)]) ∧ SqT X.K H1 z zs ∧ R (Itt X.K z) H1) (fun d M1 v G1 H1 ⟨ds, ed, hp⟩ s1 h1 dv => by
    subst ed
    obtain ⟨a, dx, vs, rfl, g1, g2, g3⟩ := dv.obj_inv
    obtain ⟨u, rfl, d1⟩ := one_inv g3
    obtain ⟨z, us, rfl, gz, dz⟩ := d1.tup_inv
    exact ⟨a, dx, z, us, rfl, h1.sub _ _ g1, SqT.of (h1.sub _ _ gz), hR _ _ _ _ _ _ hp s1 h1 (walkD_tup (SqT.of gz) dz)⟩) hX
  refine thn (hO pins s tk_f I) fun v s1 ⟨x, H1, I1, r1, a, dx, z, zs, ex, ea, hz, q⟩ => ?_
  subst ex
  obtain rfl : v = Value.ref a := r1
  obtain ⟨mA, J, _⟩ := ins_get I1.hok ea
  obtain ⟨od, J, _⟩ := J.look
  obtain ⟨m, hF⟩ := I1.fr
  obtain ⟨oc, od2, kV, doc, pm, an, cdv, ct, osl, rfl, lk, hcd⟩ := F.ex
  refine PySem.W.owit_iter hF I1.ok.mod.kin J mt.1 mt.2 ?_
  have hbb := hb s1 [.ref a] I1.kIn rfl
  rw [List.append_nil] at hbb
  refine wpAny_call (codeAny_mono (run_w (CX := L2.CX X.prog X.w) (k := 0) (Q := fun v H' => ∃ it, v = .ref it ∧ H1 it = none ∧ s1.heap.objs.size ≤ it ∧ H' = upd H1 it (TItO z it)) (E := fun _ _ _ => False) (vs := [.ref a]) lk hcd Sc hr I1.env0 hbb (.cons rfl .nil) rfl ?_) fun r s' hq => ?_)
  · rw [hbd]
    refine ws_step' (s_ret ?_)
    refine body_itT hN hvis rfl ea hcl hna (by rw [List.lookup_cons, beq_self_eq_true]) hz (hg _ _ _) hm fun it h1 h2 => ⟨it, rfl, h1, h2, rfl⟩
  · cases r with
    | error e => exact (takes0 (X := X)) e s' (XE.of_call (W := fun _ _ _ _ => False) I1 (fun cls d H' h => h) hq)
    | ok fl =>
      cases fl with
      | next => exact False.elim hq
      | brk => exact False.elim hq
      | cont => exact False.elim hq
      | ret u =>
        obtain ⟨v', H', I', rv, it, ev, hfr, hge, eH⟩ := I1.after hq
        subst ev
        obtain rfl : u = Value.ref it := rv
        subst eH
        obtain ⟨ho, _⟩ := (I'.hok it _ upd_same : ObjOk X.prog X.w _ s'.heap it (TItO z it))
        have st0 : s'.heap.IsTupleIter it z 0 := ⟨_, ho, rfl, rfl⟩
        have hfin : PIE X pins σ tg R (.ref it) s' := ⟨it, [it], _, Itt X.K z, H1, rfl, by
          have := ItX.inv_drop I' (show (upd H1 it (TItO z it)) it = some (.ext _) from upd_same)
          rwa [ItX.dropH_upd hfr] at this, turn_tuple z it, st0, fun b hb => by
          have e : b = it := by simpa using hb
          subst e
          have := ItX.inv_fp I' (show (upd H1 b (TItO z b)) b = some _ from upd_same) (Nat.le_trans I1.sz hge)
          rwa [ItX.dropH_upd hfr] at this, q⟩
        show PySem.W.OwitIt _ _ _ _ (.ref it) s'
        unfold PySem.W.OwitIt
        have hT : s'.TypeIs (.ref it) "tuple_iterator" := ⟨_, ho, rfl⟩
        exact wpAny_specialOf (name := Str.ofString "__next__") hT PySem.F.slot_tuple_iterator_next.lookup hfin
end Kh

set_option Elab.async false
set_option linter.all false
set_option maxRecDepth 100000
set_option maxHeartbeats 1000000
namespace Kh
open PySem PySem.Spec L2
/-! ### [y for x in e for y in x] -/
def iFam1 (X : Cx) (scope : Scope) (tg1 iter1 : Expr) : TI := fun σ H R => ∀ (s : Shared) (H0 : Hp) (C : Addr) (cl : List (Str × Addr)) (fp : List Addr), tWI (Cx.Bk X scope s H0 C cl fp) false tg1 iter1 σ H R
theorem pi_fam {X : Cx} {scope : Scope} {tg1 iter1 : Expr} (s : Shared) (H0 : Hp) (C : Addr) (cl : List (Str × Addr)) (fp : List Addr) : PI (Cx.Bk X scope s H0 C cl fp) tg1 iter1 (iFam1 X scope tg1 iter1) := ⟨fun pins s' σ H' R I q => q s H0 C cl fp pins s' tk_f I⟩
section
variable {X : Cx} {T : Bool} {tg iter elt tg1 iter1 : Expr} {τ : TEnv} {M : Mem} {E : XKx} {pos : Pos} {vs vs1 : List Nat} {P : PK'}
theorem flat_read {scope : Scope} (hi : EI X tg iter τ M (fun ds M1 Ok => ∃ xss : List (List Dat), ds = xss.map Dat.lst ∧ xss.flatten.length ≤ sizeLine ∧ Ok M1 ∧ P (.lst xss.flatten) M1 ∧
      ∀ (ds : List Dat) (s : Shared) (H : Hp) (C : Addr) (cl : List (Str × Addr)) (fp : List Addr), GC (Cx.Bk X scope s H C cl fp) vs tg (.lst ds) (wipeT τ vs) M1 (fun τ2 M2 => M2 = M1 ∧
        (∀ (s : Shared) (H : Hp) (C : Addr) (cl : List (Str × Addr)) (fp : List Addr), EI (Cx.Bk X scope s H C cl fp) tg1 iter1 τ2 M1 (fun ds' M3 Ok => ds' = ds ∧ M3 = M1 ∧ Ok M1) E0') ∧
        ∀ (d : Dat) (s : Shared) (H : Hp) (C : Addr) (cl : List (Str × Addr)) (fp : List Addr), GC (Cx.Bk X scope s H C cl fp) vs1 tg1 d (wipeT τ2 vs1) M1 (fun τ3 M4 => M4 = M1 ∧
          ∀ (s : Shared) (H : Hp) (C : Addr) (cl : List (Str × Addr)) (fp : List Addr), EX (Cx.Bk X scope s H C cl fp) false elt τ3 M1 (fun y M5 => y = d ∧ M5 = M1) E0'))) E)
    {W : WX} (tk : Takes X W) {σ : L2.St} {G H : Hp} (hE : DenE X.K τ G σ) (hH : Hst X.K G M H) {Q : VK} (hP : CE' X.K G M H P Q) (hX : CX' X.K G M H E (fun c d H2 => W c d σ H2)) :
    tLc2 (tWI X false tg iter) (gFam X scope tg) (iFam X scope []) (iFam1 X scope tg1 iter1) (gFam X scope tg1) (iFam X scope []) (eFam X scope elt) vs vs1 σ H Q := by
  refine hi.run W tk σ G H hE hH _ ?_ hX
  intro J ds M1 G1 H1 Ok ⟨xss, ed, hz, hOk, hp, hb⟩ s1 h1 w D hD
  subst ed
  have hDH : ∀ b o, b ∉ adr M → H b = some o → b ≠ D := fun b o n e z => by rw [← z, s1.hh b o n e] at hD; cases hD
  let Pv : List Dat → Hp → Prop := fun acc H' => ∃ aV G', Hst X.K G' M1 H' ∧ Stp G M H G' M1 H' ∧ Same G1 G' ∧ H' D = some (.lst aV) ∧ DenL X.K G' acc aV ∧ G' D = none ∧ D ∉ adr M1
  have laid : ∀ {G' H' : Hp} {xs : List V}, Hst X.K G' M1 H' → G' D = none → D ∉ adr M1 → Hst X.K G' M1 (upd H' D (.lst xs)) := fun {G' H' xs} h g n =>
    ⟨fun b o e => by rw [upd_ne (fun z => by rw [z, g] at e; cases e)]; exact h.sub b o e, fun c hc => (h.mem c hc).up (Same.refl _) fun b hb o e => by rw [upd_ne (fun z => n (by rw [← z]; exact List.mem_flatMap.mpr ⟨c, hc, hb⟩))]; exact e, h.out, h.nd⟩
  have stp : ∀ {G' H' : Hp} {xs : List V}, Stp G M H G' M1 H' → Stp G M H G' M1 (upd H' D (.lst xs)) := fun {G' H' xs} s =>
    ⟨s.gg, fun b o n e => by rw [upd_ne (hDH b o n e)]; exact s.hh b o n e, s.fr, s.ad⟩
  have n0 : D ∉ adr M1 := fun z => h1.there D z hD
  have g0 : G1 D = none := h1.sub.free hD
  have len : (xss.map Dat.lst).length = xss.length := List.length_map _
  refine ⟨fun i m H' => m = xss.length - i ∧ i ≤ xss.length ∧ Pv (xss.take i).flatten H', ⟨_, rfl, Nat.zero_le _, [], G1, laid h1 g0 n0, stp s1, Same.refl _, upd_same, .nil, g0, n0⟩, ?_⟩
  rintro i m H' ⟨rfl, hle, aV, G', h', s', g', hDl, hda, hg', hn'⟩
  obtain ⟨w1, w2, w3⟩ := w G' M1 H' g' h' hOk
  rw [len] at w1 w2 w3
  have thru : ∀ {G0 H0 G2 H2 : Hp} {aV : List V} {acc : List Dat}, H0 D = some (.lst aV) → DenL X.K G0 acc aV → G0 D = none → Stp G0 M1 H0 G2 M1 H2 → H2 D = some (.lst aV) ∧ DenL X.K G2 acc aV ∧ G2 D = none := fun {G0 H0 G2 H2 aV acc} a1 a2 a3 s =>
    ⟨s.hh D _ hn' a1, a2.up s.gg, s.fr D (by rw [a1]; exact fun z => nomatch z) hn' a3⟩
  by_cases hlt : i < xss.length
  · refine .inr ⟨w1 i hlt, fun H2 => Pv (xss.take (i + 1)).flatten H2, fun H2 q => ⟨xss.length - (i + 1), by omega, rfl, hlt, q⟩, fun x H2 y => ?_⟩
    obtain ⟨G2, s2, h2, dx⟩ := w3 i x H2 hlt y
    have hd' : (xss.map Dat.lst)[i]? = some (.lst xss[i]) := by rw [List.getElem?_map, List.getElem?_eq_getElem hlt]; rfl
    have eW : DenE X.K (wipeT τ vs) G2 (wipe σ vs) := denE_wipe ((hE.up s'.gg).up s2.gg) vs
    intro sA HA CA clA fpA
    refine hb _ sA HA CA clA fpA (wipe σ vs) G2 H2 x eW h2 (dx _ hd') _ ?_
    rintro τ3 M3 G3 H3 σ3 ⟨rfl, pI, pG⟩ s3 h3 e3 l3 k3
    refine ⟨by rw [wipe_ext l3 k3, wipe_wipe], fun sB HB CB clB fpB => ?_⟩
    refine ef_nil (X := Cx.Bk X scope sB HB CB clB fpB) (P := fun b M4 => b = true ∧ M4 = M3) ⟨rfl, rfl⟩ σ3 G3 H3 e3 h3 _ ?_
    rintro bb M4 G4 H4 ⟨rfl, rfl⟩ s4 h4
    refine iteT fun sC HC CC clC fpC => ?_
    refine (pI sC HC CC clC fpC).run _ takes0 σ3 G4 H4 (e3.up s4.gg) h4 _ ?_ noX
    rintro J1 ds1 M5 G5 H5 Ok1 ⟨rfl, rfl, hOk1⟩ s5 h5 wi
    have s25 := ((s2.trans s3).trans s4).trans s5
    obtain ⟨t1, t2, t3⟩ := thru hDl hda hg' s25
    have e5 := (e3.up s4.gg).up s5.gg
    refine ⟨fun j k H' => k = (xss[i]).length - j ∧ j ≤ (xss[i]).length ∧ ∃ aV G', Hst X.K G' M5 H' ∧ Stp G M H G' M5 H' ∧ Same G5 G' ∧ H' D = some (.lst aV) ∧ DenL X.K G' ((xss.take i).flatten ++ (xss[i]).take j) aV ∧ G' D = none, ⟨_, rfl, Nat.zero_le _, aV, G5, h5, s'.trans s25, Same.refl _, t1, by rw [List.take_zero, List.append_nil]; exact t2, t3⟩, ?_⟩
    rintro j k H6 ⟨rfl, hjle, bV, G6, h6, s6, g6, hDl6, hda6, hg6⟩
    obtain ⟨u1, u2, u3⟩ := wi G6 M5 H6 g6 h6 hOk1
    by_cases hj : j < (xss[i]).length
    · refine .inr ⟨u1 j hj, fun H7 => ∃ aV G', Hst X.K G' M5 H7 ∧ Stp G M H G' M5 H7 ∧ Same G5 G' ∧ H7 D = some (.lst aV) ∧ DenL X.K G' ((xss.take i).flatten ++ (xss[i]).take (j + 1)) aV ∧ G' D = none, fun H7 q => ⟨(xss[i]).length - (j + 1), by omega, rfl, hj, q⟩, fun x7 H7 y7 => ?_⟩
      obtain ⟨G7, s7, h7, dx7⟩ := u3 j x7 H7 hj y7
      have hd7 := List.getElem?_eq_getElem hj
      have eW7 : DenE X.K (wipeT τ3 vs1) G7 (wipe σ3 vs1) := denE_wipe ((e5.up g6).up s7.gg) vs1
      intro sD HD CD clD fpD
      refine pG _ sD HD CD clD fpD (wipe σ3 vs1) G7 H7 x7 eW7 h7 (dx7 _ hd7) _ ?_
      rintro τ8 M8 G8 H8 σ8 ⟨rfl, pE⟩ s8 h8 e8 l8 k8
      refine ⟨by rw [wipe_ext l8 k8, wipe_wipe], fun sE HE CE clE fpE => ?_⟩
      refine ef_nil (X := Cx.Bk X scope sE HE CE clE fpE) (P := fun b M4 => b = true ∧ M4 = M8) ⟨rfl, rfl⟩ σ8 G8 H8 e8 h8 _ ?_
      rintro b9 M9 G9 H9 ⟨rfl, rfl⟩ s9 h9
      refine iteT fun sF HF CF clF fpF => ?_
      refine (pE sF HF CF clF fpF).run _ takes0 σ8 G9 H9 (e8.up s9.gg) h9 _ ?_ noX
      rintro y10 M10 v10 G10 H10 ⟨rfl, rfl⟩ s10 h10 d10
      have s710 := ((s7.trans s8).trans s9).trans s10
      obtain ⟨q1, q2, q3⟩ := thru hDl6 hda6 hg6 s710
      have ht : (xss[i]).take (j + 1) = (xss[i]).take j ++ [(xss[i])[j]] := by rw [List.take_succ, List.getElem?_eq_getElem hj]; rfl
      have hbl : bV.length < sizeLine := by
        rw [hda6.length, List.length_append, List.length_take]
        have e1 : xss.flatten = (xss.take i).flatten ++ ((xss[i]) ++ (xss.drop (i + 1)).flatten) := by
          rw [← List.flatten_cons, ← List.drop_eq_getElem_cons hlt, ← List.flatten_append, List.take_append_drop]
        rw [e1, List.length_append, List.length_append] at hz
        omega
      refine ⟨bV, q1, hbl, bV ++ [v10], G10, laid h10 q3 hn', stp (s6.trans s710), g6.trans s710.gg, upd_same, ?_, q3⟩
      rw [ht, ← List.append_assoc]
      exact q2.snoc d10
    · have ej : j = (xss[i]).length := by omega
      subst ej
      refine .inl ⟨u2, bV, G6, h6, s6, (g'.trans s25.gg).trans g6, hDl6, ?_, hg6, hn'⟩
      rw [List.take_length] at hda6
      have et : (xss.take (i + 1)).flatten = (xss.take i).flatten ++ xss[i] := by rw [List.take_succ, List.getElem?_eq_getElem hlt, List.flatten_append]; simp
      rw [et]; exact hda6
  · have e : i = xss.length := by omega
    subst e
    refine .inl ⟨w2, ?_⟩
    rw [List.take_length] at hda
    have up : Same G' (upd G' D (.lst aV)) := fun b o e => by rw [upd_ne (ne_of_none e hg')]; exact e
    have hF : Hst X.K (upd G' D (.lst aV)) M1 H' := ⟨fun b o e => by
      by_cases c : b = D
      · subst c; rw [upd_same] at e; cases e; exact hDl
      · rw [upd_ne c] at e; exact h'.sub b o e, fun c hc => (h'.mem c hc).up up fun _ _ _ e => e, fun b hb => by rw [upd_ne (fun z => hn' (by rw [← z]; exact hb))]; exact h'.out b hb, h'.nd⟩
    have sF : Stp G M H (upd G' D (.lst aV)) M1 H' := ⟨s'.gg.trans up, s'.hh, fun b hb n g => by
      rw [upd_ne (fun z => ?_)]
      · exact s'.fr b hb n g
      · cases q : H b with
        | none => exact hb q
        | some o => exact hDH b o n q z, s'.ad⟩
    exact hP _ _ _ _ _ hp sF hF (den_lst upd_same (hda.up up))
end
end Kh

set_option Elab.async false
set_option linter.all false
set_option maxRecDepth 100000
set_option maxHeartbeats 1000000
namespace Kh
open PySem PySem.Spec L2
open PySem.SeqAt PySem.MeetsSeq PySem.MeetsSeq2 PySem.MeetsSeq3 PySem.SeqRoads2
open PySem.AutoSeq1 (wpAny_loadPart')
/-! ### lists compared, whose items have an own == -/
section
variable {prog : Program} {w : World} {A : Around} {R : Result → Shared → Prop}
def twoL (l b : Addr) (N : Nat) (s : Shared) : Prop := ∃ (items items2 : Array Value), s.heap.IsList l items ∧ s.heap.IsList b items2 ∧ items.size = N ∧ items2.size = N
/-- at each turn the two lists are read anew -/
def ListJ (prog : Program) (w : World) (A : Around) (E : Value → Shared → Prop) (l b : Addr) (N : Nat) (I F : Nat → Shared → Prop) : Prop :=
  ∀ i s, I i s → ∃ (items items2 : Array Value), s.heap.IsList l items ∧ s.heap.IsList b items2 ∧ items.size = N ∧ items2.size = N ∧
    ∀ (h1 : i < items.size) (h2 : i < items2.size) (Q : Bool → Shared → Prop), (∀ t s'', (t = true → I (i + 1) s'') → (t = false → F i s'') → Q t s'') → wpAny (model prog w) A.in1 (eqBool items[i] items2[i]) Q E s
def lopN (ne : Bool) : Nat := if ne then 3 else 2
theorem eq_loopJ (ne : Bool) (l b : Addr) (N : Nat) (I F : Nat → Shared → Prop) (hl : ListJ prog w A (fun e s' => R (.error e) s') l b N I F)
    (fin : ∀ s, I N s → R (.ok (.ret (.bool (!ne)))) s) (hF : ∀ i s, F i s → twoL l b N s ∧ R (.ok (.ret (.bool ne))) s) (k : Nat) :
    ∀ i : Nat, N - i = k → i ≤ N → ∀ s, I i s →
      wpAny (model prog w) A.in1 (Builtin.«list.__eq__.loop» ⟨[.ref l, .ref b, rawInt i, rawInt (lopN ne)], []⟩) (GQ.FinOf prog w A R) (fun e s' => R (.error e) s') s := by
  induction k with
  | zero =>
    intro i hk hi s h
    obtain ⟨items, items2, ⟨⟨c1, dd, dt, sl⟩, hl1, hc1, n, hd1⟩, ⟨⟨c2, dd2, dt2, sl2⟩, hb1, hc2, n2, hd2⟩, hs1, hs2, _⟩ := hl _ _ h
    simp only at hc1 hd1 hc2 hd2
    subst hc1 hd1 hc2 hd2
    have hi' : i = N := by omega
    have hR : R (.ok (.ret (.bool (!ne)))) s := fin s (hi' ▸ h)
    obtain ⟨hp, g, d, tk, os⟩ := s
    cases ne with
    | false =>
      show wpAny _ _ (Builtin.«list.__eq__.loop» ⟨[.ref l, .ref b, rawInt i, rawInt 2], []⟩) _ _ _
      wp_walk using wpAny_loadPart' hl1, wpAny_loadPart' hb1
      have hi1 : items[((i : Nat) : Int).toNat]? = none := by simp; omega
      have hi2 : items2[((i : Nat) : Int).toNat]? = none := by simp; omega
      rw [hi1, hi2]
      wp_walk using wpAny_loadPart' hl1, wpAny_loadPart' hb1
      show R (.ok (.ret (.bool (items.size == items2.size)))) _
      rw [hs1, hs2]
      simpa using hR
    | true =>
      show wpAny _ _ (Builtin.«list.__eq__.loop» ⟨[.ref l, .ref b, rawInt i, rawInt 3], []⟩) _ _ _
      wp_walk using wpAny_loadPart' hl1, wpAny_loadPart' hb1
      have hi1 : items[((i : Nat) : Int).toNat]? = none := by simp; omega
      have hi2 : items2[((i : Nat) : Int).toNat]? = none := by simp; omega
      rw [hi1, hi2]
      wp_walk using wpAny_loadPart' hl1, wpAny_loadPart' hb1
      show R (.ok (.ret (.bool (items.size != items2.size)))) _
      rw [hs1, hs2]
      simpa using hR
  | succ k ih =>
    intro i hk hi s h
    obtain ⟨items, items2, ⟨⟨c1, dd, dt, sl⟩, hl1, hc1, n, hd1⟩, ⟨⟨c2, dd2, dt2, sl2⟩, hb1, hc2, n2, hd2⟩, hs1, hs2, turn⟩ := hl _ _ h
    simp only at hc1 hd1 hc2 hd2
    subst hc1 hd1 hc2 hd2
    have hlt : i < items.size := by omega
    have hlt2 : i < items2.size := by omega
    have ht := turn hlt hlt2
    obtain ⟨hp, g, d, tk, os⟩ := s
    have hi1 : items[((i : Nat) : Int).toNat]? = some items[i] := by simp [hlt]
    have hi2 : items2[((i : Nat) : Int).toNat]? = some items2[i] := by simp [hlt2]
    have hc : ((i : Int) + 1) = ((i + 1 : Nat) : Int) := by omega
    cases ne with
    | false =>
      show wpAny _ _ (Builtin.«list.__eq__.loop» ⟨[.ref l, .ref b, rawInt i, rawInt 2], []⟩) _ _ _
      wp_walk using wpAny_loadPart' hl1, wpAny_loadPart' hb1
      rw [hi1, hi2]
      refine wpAny_bind (ht _ fun t s2 hT hFl => ?_)
      cases t with
      | true =>
        have hrec := ih (i + 1) (by omega) (by omega) s2 (hT rfl)
        obtain ⟨hp2, g2, d2, tk2, os2⟩ := s2
        wp_walk
        rw [hc]
        exact ⟨plainId_quiet plain_eq_loop _, codeAny_builtin entry_eq_loop (by
          rw [Around.under_plainId plain_eq_loop _]
          exact hrec)⟩
      | false =>
        obtain ⟨⟨it3, it4, ⟨⟨c1, dd3, dt3, sl3⟩, hl2, hc1, n3, hd1⟩, ⟨⟨c2, dd4, dt4, sl4⟩, hb2, hc2, n4, hd2⟩, hs3, hs4⟩, hRf⟩ := hF _ _ (hFl rfl)
        simp only at hc1 hd1 hc2 hd2
        subst hc1 hd1 hc2 hd2
        obtain ⟨hp2, g2, d2, tk2, os2⟩ := s2
        wp_walk using wpAny_loadPart' hl2, wpAny_loadPart' hb2
        have hi3 : it3[((i : Nat) : Int).toNat]? = some (it3[i]'(by omega)) := by simp
        have hi4 : it4[((i : Nat) : Int).toNat]? = some (it4[i]'(by omega)) := by simp
        rw [hi3, hi4]
        wp_walk
        exact hRf
    | true =>
      show wpAny _ _ (Builtin.«list.__eq__.loop» ⟨[.ref l, .ref b, rawInt i, rawInt 3], []⟩) _ _ _
      wp_walk using wpAny_loadPart' hl1, wpAny_loadPart' hb1
      rw [hi1, hi2]
      refine wpAny_bind (ht _ fun t s2 hT hFl => ?_)
      cases t with
      | true =>
        have hrec := ih (i + 1) (by omega) (by omega) s2 (hT rfl)
        obtain ⟨hp2, g2, d2, tk2, os2⟩ := s2
        wp_walk
        rw [hc]
        exact ⟨plainId_quiet plain_eq_loop _, codeAny_builtin entry_eq_loop (by
          rw [Around.under_plainId plain_eq_loop _]
          exact hrec)⟩
      | false =>
        obtain ⟨⟨it3, it4, ⟨⟨c1, dd3, dt3, sl3⟩, hl2, hc1, n3, hd1⟩, ⟨⟨c2, dd4, dt4, sl4⟩, hb2, hc2, n4, hd2⟩, hs3, hs4⟩, hRf⟩ := hF _ _ (hFl rfl)
        simp only at hc1 hd1 hc2 hd2
        subst hc1 hd1 hc2 hd2
        obtain ⟨hp2, g2, d2, tk2, os2⟩ := s2
        wp_walk using wpAny_loadPart' hl2, wpAny_loadPart' hb2
        have hi3 : it3[((i : Nat) : Int).toNat]? = some (it3[i]'(by omega)) := by simp
        have hi4 : it4[((i : Nat) : Int).toNat]? = some (it4[i]'(by omega)) := by simp
        rw [hi3, hi4]
        wp_walk
        exact hRf

theorem list_eqJ (l b : Addr) (N : Nat) (I F : Nat → Shared → Prop) (hl : ListJ prog w A (fun e s' => R (.error e) s') l b N I F)
    (fin : ∀ s, I N s → R (.ok (.ret (.bool true))) s) (hF : ∀ i s, F i s → twoL l b N s ∧ R (.ok (.ret (.bool false))) s) {s : Shared} (h : I 0 s) :
    wpAny (model prog w) A.in1 (Builtin.«list.__eq__» ⟨[.ref l, .ref b], []⟩) (GQ.FinOf prog w A R) (fun e s' => R (.error e) s') s := by
  obtain ⟨items, items2, ⟨⟨c1, dd, dt, sl⟩, hl1, hc1, n, hd1⟩, ⟨⟨c2, dd2, dt2, sl2⟩, hb1, hc2, n2, hd2⟩, hs1, hs2, _⟩ := hl _ _ h
  simp only at hc1 hd1 hc2 hd2
  subst hc1 hd1 hc2 hd2
  have hrec := eq_loopJ (A := A) (R := R) false l b N I F hl fin hF _ 0 rfl (Nat.zero_le _) s h
  obtain ⟨hp, g, d, tk, os⟩ := s
  have f3 := AutoSeq1.sub_list_list
  have hne : ¬ (items.size != items2.size) = true := by simp [hs1, hs2]
  wp_walk using wpAny_loadPart' hl1, wpAny_loadPart' hb1
  exact ⟨plainId_quiet plain_eq_loop _, codeAny_builtin entry_eq_loop (by
    rw [Around.under_plainId plain_eq_loop _]
    exact hrec)⟩
theorem list_neJ (l b : Addr) (N : Nat) (I F : Nat → Shared → Prop) (hl : ListJ prog w A (fun e s' => R (.error e) s') l b N I F)
    (fin : ∀ s, I N s → R (.ok (.ret (.bool false))) s) (hF : ∀ i s, F i s → twoL l b N s ∧ R (.ok (.ret (.bool true))) s) {s : Shared} (h : I 0 s) :
    wpAny (model prog w) A.in1 (Builtin.«list.__ne__» ⟨[.ref l, .ref b], []⟩) (GQ.FinOf prog w A R) (fun e s' => R (.error e) s') s := by
  obtain ⟨items, items2, ⟨⟨c1, dd, dt, sl⟩, hl1, hc1, n, hd1⟩, ⟨⟨c2, dd2, dt2, sl2⟩, hb1, hc2, n2, hd2⟩, hs1, hs2, _⟩ := hl _ _ h
  simp only at hc1 hd1 hc2 hd2
  subst hc1 hd1 hc2 hd2
  have hrec := eq_loopJ (A := A) (R := R) true l b N I F hl fin hF _ 0 rfl (Nat.zero_le _) s h
  obtain ⟨hp, g, d, tk, os⟩ := s
  have f3 := AutoSeq1.sub_list_list
  have hne : ¬ (items.size != items2.size) = true := by simp [hs1, hs2]
  wp_walk using wpAny_loadPart' hl1, wpAny_loadPart' hb1
  exact ⟨plainId_quiet plain_eq_loop _, codeAny_builtin entry_eq_loop (by
    rw [Around.under_plainId plain_eq_loop _]
    exact hrec)⟩
/-- lists of unlike lengths -/
theorem list_eqU (l b : Addr) {items items2 : Array Value} {s : Shared} (hl : s.heap.IsList l items) (hb : s.heap.IsList b items2) (hs : items.size ≠ items2.size) (hR : R (.ok (.ret (.bool false))) s) :
    wpAny (model prog w) A.in1 (Builtin.«list.__eq__» ⟨[.ref l, .ref b], []⟩) (GQ.FinOf prog w A R) (fun e s' => R (.error e) s') s := by
  obtain ⟨⟨c1, dd, dt, sl⟩, hl1, hc1, n, hd1⟩ := hl
  obtain ⟨⟨c2, dd2, dt2, sl2⟩, hb1, hc2, n2, hd2⟩ := hb
  simp only at hc1 hd1 hc2 hd2
  subst hc1 hd1 hc2 hd2
  obtain ⟨hp, g, d, tk, os⟩ := s
  have f3 := AutoSeq1.sub_list_list
  have hne : (items.size != items2.size) = true := by simp [hs]
  wp_walk using wpAny_loadPart' hl1, wpAny_loadPart' hb1
  exact hR
theorem list_neU (l b : Addr) {items items2 : Array Value} {s : Shared} (hl : s.heap.IsList l items) (hb : s.heap.IsList b items2) (hs : items.size ≠ items2.size) (hR : R (.ok (.ret (.bool true))) s) :
    wpAny (model prog w) A.in1 (Builtin.«list.__ne__» ⟨[.ref l, .ref b], []⟩) (GQ.FinOf prog w A R) (fun e s' => R (.error e) s') s := by
  obtain ⟨⟨c1, dd, dt, sl⟩, hl1, hc1, n, hd1⟩ := hl
  obtain ⟨⟨c2, dd2, dt2, sl2⟩, hb1, hc2, n2, hd2⟩ := hb
  simp only at hc1 hd1 hc2 hd2
  subst hc1 hd1 hc2 hd2
  obtain ⟨hp, g, d, tk, os⟩ := s
  have f3 := AutoSeq1.sub_list_list
  have hne : (items.size != items2.size) = true := by simp [hs]
  wp_walk using wpAny_loadPart' hl1, wpAny_loadPart' hb1
  exact hR
end
section
variable {prog : Program} {w : World} {A : Around} {E : Value → Shared → Prop} {s : Shared}
theorem rc_listJ {ne : Bool} {l b : Addr} {N : Nat} {Q : Value → Shared → Prop} (hu : A.units < cLine) (I F : Nat → Shared → Prop) (hl : ListJ prog w A E l b N I F)
    (fin : ∀ s, I N s → Q (.bool (!ne)) s) (hF : ∀ i s, F i s → twoL l b N s ∧ Q (.bool ne) s) (h : I 0 s) : wpAny (model prog w) A (richCompare (if ne then .NotEq else .Eq) (.ref l) (.ref b)) Q E s := by
  obtain ⟨items, items2, ⟨o1, ho1, hc1, _⟩, ⟨o2, ho2, hc2, _⟩, _, _, _⟩ := hl _ _ h
  cases ne with
  | false =>
    refine wpAny_richCompare_same_room (op := .Eq) ⟨_, ho1, hc1⟩ ⟨_, ho2, hc2⟩ PySem.F.slot_list_eq (GQ.call_here PySem.F.slot_list_eq ⟨_, ho1, hc1⟩ PySem.F.entry_list_eq (PySem.F.args_list_eq_2 _ _) ?_) hu
    exact list_eqJ (R := wants (fun v s' => v ≠ .notImplemented ∧ Q v s') E) l b N I F hl (fun s' q => ⟨(fun x => nomatch x), fin s' q⟩) (fun i s' q => ⟨(hF i s' q).1, (fun x => nomatch x), (hF i s' q).2⟩) h
  | true =>
    refine wpAny_richCompare_same_room (op := .NotEq) ⟨_, ho1, hc1⟩ ⟨_, ho2, hc2⟩ PySem.F.slot_list_ne (GQ.call_here PySem.F.slot_list_ne ⟨_, ho1, hc1⟩ PySem.F.entry_list_ne (PySem.F.args_list_ne_2 _ _) ?_) hu
    exact list_neJ (R := wants (fun v s' => v ≠ .notImplemented ∧ Q v s') E) l b N I F hl (fun s' q => ⟨(fun x => nomatch x), fin s' q⟩) (fun i s' q => ⟨(hF i s' q).1, (fun x => nomatch x), (hF i s' q).2⟩) h
theorem rc_listU {ne : Bool} {l b : Addr} {items items2 : Array Value} {Q : Value → Shared → Prop} (hu : A.units < cLine) (hl : s.heap.IsList l items) (hb : s.heap.IsList b items2) (hs : items.size ≠ items2.size) (hQ : Q (.bool ne) s) :
    wpAny (model prog w) A (richCompare (if ne then .NotEq else .Eq) (.ref l) (.ref b)) Q E s := by
  obtain ⟨o1, ho1, hc1, _⟩ := id hl
  obtain ⟨o2, ho2, hc2, _⟩ := id hb
  cases ne with
  | false =>
    refine wpAny_richCompare_same_room (op := .Eq) ⟨_, ho1, hc1⟩ ⟨_, ho2, hc2⟩ PySem.F.slot_list_eq (GQ.call_here PySem.F.slot_list_eq ⟨_, ho1, hc1⟩ PySem.F.entry_list_eq (PySem.F.args_list_eq_2 _ _) ?_) hu
    exact list_eqU (R := wants (fun v s' => v ≠ .notImplemented ∧ Q v s') E) l b hl hb hs ⟨(fun x => nomatch x), hQ⟩
  | true =>
    refine wpAny_richCompare_same_room (op := .NotEq) ⟨_, ho1, hc1⟩ ⟨_, ho2, hc2⟩ PySem.F.slot_list_ne (GQ.call_here PySem.F.slot_list_ne ⟨_, ho1, hc1⟩ PySem.F.entry_list_ne (PySem.F.args_list_ne_2 _ _) ?_) hu
    exact list_neU (R := wants (fun v s' => v ≠ .notImplemented ∧ Q v s') E) l b hl hb hs ⟨(fun x => nomatch x), hQ⟩
end
/-- what a list's == answers, item by item -/
def eqVL {α : Type} (me : α → α → Res Bool) (xs ys : List α) : Res Bool := if xs.length = ys.length then eqV me xs ys else .ok false
/-- items of a kind with an own ==, as they are compared inside a builtin -/
structure OwnEq (X : Cx) (α : Type) (f : α → Dat) (me : α → α → Res Bool) : Prop where
  el : ∀ x y, EqO X.prog X.w X.K X.mg X.base X.A.in1 (f x) (f y) (me x y)
  isR : ∀ x, isR (f x) = true
  inj : ∀ (G : Hp) x y a, Den X.K G (f x) (.ref a) → Den X.K G (f y) (.ref a) → x = y
  self : ∀ x, me x x = .ok true
section
variable {X : Cx} {T : Bool} {M : Mem} {P : PK'} {α : Type} {f : α → Dat} {me : α → α → Res Bool} {Q1 : Bool → Prop} {E1 : Er → Prop}
/-- one item's == inside a builtin -/
theorem eqItem (O : OwnEq X α f me) {pins : List (Addr × Obj)} {σ : L2.St} {G' : Hp} {H' : Hp} {s' : Shared} {x y : α} {v1 v2 : V} {u1 u2 : Value} (I' : Inv X pins σ H' s') (hst : Hst X.K G' M H') (d1 : Den X.K G' (f x) v1) (d2 : Den X.K G' (f y) v2) (r1 : RelV v1 u1) (r2 : RelV v2 u2)
    {Qo : Bool → Prop} (hq : (me x y).Out Qo (fun _ => False)) {Qb : Bool → Shared → Prop} (hQb : ∀ t s2 H2 G2, Qo t → Inv X pins σ H2 s2 → Stp G' M H' G2 M H2 → Hst X.K G2 M H2 → Qb t s2) : wpAny (model X.prog X.w) X.A.in1 (eqBool u1 u2) Qb X.xe s' := by
  obtain ⟨a1, rfl⟩ := den_isR (O.isR _) d1
  obtain ⟨a2, rfl⟩ := den_isR (O.isR _) d2
  obtain rfl : u1 = Value.ref a1 := r1
  obtain rfl : u2 = Value.ref a2 := r2
  by_cases e : a1 = a2
  · subst e
    obtain rfl := O.inj _ _ _ _ d1 d2
    rw [O.self x] at hq
    exact EqAt.same (A := X.A.in1) (s := s') (.ref a1) X.prog X.w _ Qb (hQb true s' H' G' hq I' Stp.refl hst)
  · unfold eqBool
    refine wpAny_holding ?_
    refine wpAny_ite_split (fun hab => absurd (by have := eq_of_beq hab; injection this) e) (fun _ => ?_)
    obtain ⟨C, fa, fd, k, ps, S, t, FF, hrm, mt, _, _, hb, hx, ty, hn, hS⟩ := O.el x y
    obtain ⟨a', dxa, fs, ea', ea, _⟩ := (hx M).get hst d1
    cases ea'
    obtain ⟨mA, J, _⟩ := ins_get I'.hok ea
    obtain ⟨od, J, _⟩ := J.look
    obtain ⟨m, hF⟩ := I'.fr
    have ry : RelV (.ref a2) (Value.ref a2) := rfl
    obtain ⟨Pr, Z, pz, _⟩ := kit_of I' ry (tyD_ok (ty M) hst d2)
    refine wpAny_bind ?_
    have hsp : toSp X.K S [.ref a1, .ref a2] H' (fun z H2 => ∃ t, z = .bl t ∧ ∃ G2, Stp G' M H' G2 M H2 ∧ Hst X.K G2 M H2 ∧ Qo t) (fun _ _ _ => False) :=
      ap_toSp (ap_all (hS M (UpP fun d M2 => ∃ t, d = .bl t ∧ M2 = M ∧ Qo t) (UpP E0') (out_mono hq (fun t q => UpP.mk ⟨t, rfl, rfl, q⟩) fun _ z => z))) (.cons d1 (.cons d2 .nil)) hst
        (fun d M2 z G2 H2 ⟨t, ed, em, hp⟩ s2 h2 dz => by subst ed; subst em; exact ⟨t, dz.bl_inv, G2, s2, h2, hp⟩) noX
    refine PySem.W.cmp_K (op := .Eq) (tb := t) hrm.units0 hF I'.ok.mod.kin J (Z.ty _ _ I'.kIn pz) hn mt.1 mt.2 ?_
    refine wpAny_mono (run_dA (W := fun _ _ _ _ => False) (us := [.ref a1, .ref a2]) (vs := [.ref a1, .ref a2]) FF (hrm.mono (Nat.le_succ _)) I'.env0.in1 hb takes0 I' (.cons rfl (.cons rfl .nil)) hsp) (fun r s2 q => ?_) fun _ _ z => z
    obtain ⟨z, H2, I2, rz, t2, ez, G2, st2, hst2, q⟩ := q
    subst ez
    cases rz
    exact wpAny_truthy_bool (hQb t2 s2 H2 G2 q I2 st2 hst2)
theorem LsD.up {K : PySem.W.Frag} {G H G' H' : Hp} {M : Mem} {d : Dat} {xs : List Dat} {a : Addr} (h : LsD M d xs) (hH : Hst K G M H) (hH' : Hst K G' M H') (s : Stp G M H G' M H') (dv : Den K G d (.ref a)) : ∃ vs, H' a = some (.lst vs) ∧ DenL K G' xs vs := by
  obtain ⟨a', vs, e, g1, g2⟩ := h.get hH' (dv.up s.gg)
  cases e
  exact ⟨vs, g1, g2⟩
theorem o_cmpLO (ne : Bool) (O : OwnEq X α f me) {x y : Dat} {xs ys : List α} (lx : LsD M x (xs.map f)) (ly : LsD M y (ys.map f)) (hu : X.A.units + 64 < cLine) (h : (eqVL me xs ys).ne.Out Q1 E1) (hk : ∀ b, Q1 b → P (.bl (if ne then !b else b)) M) :
    OP X T (compareOp (if ne then .NotEq else .Eq)) x y M P := by
  intro G H v u hH dx dy Q hQ pins s σ v' u' _ I r r'
  obtain ⟨a, vs, rfl, ga, da⟩ := lx.get hH dx
  obtain ⟨b, us, rfl, gb, db⟩ := ly.get hH dy
  cases r; cases r'
  obtain ⟨ws, r1, p1, _⟩ := I.list (SqL.of ga)
  obtain ⟨zs, r2, p2, _⟩ := I.list (SqL.of gb)
  have hw : ws.length = xs.length := by rw [← r1.length, da.length, List.length_map]
  have hz : zs.length = ys.length := by rw [← r2.length, db.length, List.length_map]
  have h : (eqVL me xs ys).Out Q1 (fun _ => False) := ne_out h
  unfold eqVL at h
  have e2 : compareOp (if ne then .NotEq else .Eq) (Value.ref a) (.ref b) = richCompare (if ne then .NotEq else .Eq) (Value.ref a) (.ref b) := by cases ne <;> rfl
  rw [e2]
  by_cases hlen : xs.length = ys.length
  · rw [if_pos hlen] at h
    refine rc_listJ (N := xs.length) (by omega) (fun j s' => j ≤ xs.length ∧ ∃ H' G', Inv X pins σ H' s' ∧ Stp G M H G' M H' ∧ Hst X.K G' M H' ∧ (eqV me (xs.drop j) (ys.drop j)).Out Q1 (fun _ => False))
      (fun j s' => ∃ H' G', Inv X pins σ H' s' ∧ Stp G M H G' M H' ∧ Hst X.K G' M H' ∧ Q1 false) ?_ ?_ ?_ ⟨Nat.zero_le _, H, G, I, Stp.refl, hH, h⟩
    · rintro j s' ⟨hj, H', G', I', st, hst, hq⟩
      obtain ⟨vs', ga', da'⟩ := lx.up hH hst st dx
      obtain ⟨us', gb', db'⟩ := ly.up hH hst st dy
      obtain ⟨ws', r1', p1', _⟩ := I'.list (SqL.of ga')
      obtain ⟨zs', r2', p2', _⟩ := I'.list (SqL.of gb')
      have hw' : ws'.length = xs.length := by rw [← r1'.length, da'.length, List.length_map]
      have hz' : zs'.length = xs.length := by rw [← r2'.length, db'.length, List.length_map, hlen]
      refine ⟨_, _, p1'.isList, p2'.isList, by simpa using hw', by simpa using hz', fun h1 h2 Qb hQb => ?_⟩
      have j1 : j < xs.length := by rw [← hw']; simpa using h1
      have j2 : j < ys.length := by omega
      rw [List.drop_eq_getElem_cons j1, List.drop_eq_getElem_cons j2] at hq
      obtain ⟨v1, e1, d1⟩ := da'.get (show (xs.map f)[j]? = some (f xs[j]) by rw [List.getElem?_map, List.getElem?_eq_getElem j1]; rfl)
      obtain ⟨v2, e2, d2⟩ := db'.get (show (ys.map f)[j]? = some (f ys[j]) by rw [List.getElem?_map, List.getElem?_eq_getElem j2]; rfl)
      obtain ⟨u1, f1, q1⟩ := r1'.get e1
      obtain ⟨u2, f2, q2⟩ := r2'.get e2
      have w1 : ws'.toArray[j] = u1 := by
        rw [List.getElem?_eq_getElem (by rw [hw']; exact j1)] at f1
        simpa using f1
      have w2 : zs'.toArray[j] = u2 := by
        rw [List.getElem?_eq_getElem (by rw [hz']; exact j1)] at f2
        simpa using f2
      rw [w1, w2]
      refine eqItem O I' hst d1 d2 q1 q2 (ob hq) fun t s2 H2 G2 q I2 st2 hst2 => hQb t s2 (fun e => ?_) (fun e => ?_)
      · subst e; exact ⟨j1, H2, G2, I2, st.trans st2, hst2, q⟩
      · subst e; exact ⟨H2, G2, I2, st.trans st2, hst2, q⟩
    · rintro s' ⟨hj, H', G', I', st, hst, hq⟩
      rw [List.drop_length, hlen, List.drop_length] at hq
      have hq : Q1 true := hq
      refine ⟨.bl (!ne), H', I', rfl, hQ _ _ _ _ _ ?_ st hst den_bl⟩
      have := hk _ hq
      cases ne <;> exact this
    · rintro j s' ⟨H', G', I', st, hst, hq⟩
      obtain ⟨vs', ga', da'⟩ := lx.up hH hst st dx
      obtain ⟨us', gb', db'⟩ := ly.up hH hst st dy
      obtain ⟨ws', r1', p1', _⟩ := I'.list (SqL.of ga')
      obtain ⟨zs', r2', p2', _⟩ := I'.list (SqL.of gb')
      have hw' : ws'.length = xs.length := by rw [← r1'.length, da'.length, List.length_map]
      have hz' : zs'.length = xs.length := by rw [← r2'.length, db'.length, List.length_map, hlen]
      refine ⟨⟨_, _, p1'.isList, p2'.isList, by simpa using hw', by simpa using hz'⟩, .bl ne, H', I', rfl, hQ _ _ _ _ _ ?_ st hst den_bl⟩
      have := hk _ hq
      cases ne <;> exact this
  · rw [if_neg hlen] at h
    refine rc_listU (by omega) p1.isList p2.isList (by simpa [hw, hz] using hlen) ⟨.bl ne, H, I, rfl, hQ _ _ _ _ _ ?_ Stp.refl hH den_bl⟩
    have := hk _ h
    cases ne <;> exact this
theorem r_neLO (O : OwnEq X α f me) {x y : Dat} {xs ys : List α} (hu : X.A.units + 64 < cLine) (lx : LsD M x (xs.map f)) (ly : LsD M y (ys.map f)) (h : (eqVL me xs ys).ne.Out Q1 E1) (hk : ∀ b, Q1 b → P (.bl (!b)) M) : OP X T (compareOp .NotEq) x y M P := o_cmpLO true O lx ly hu h hk
end
end Kh

set_option Elab.async false
set_option linter.all false
set_option maxRecDepth 100000
set_option maxHeartbeats 1000000
namespace PySem.W
open Lean Elab Tactic Meta PySem PySem.Calls PyProof.Rows
/-! ### own operators with a right side of any other type -/
section
variable {prog : Program} {w : World} {M : Model} {A : Around} {E : Value → Shared → Prop} {s : Shared} {K : Frag} {x C L f : Addr} {h₀ : Heap} {m : Str → Option Value} {ox : Obj} {od : Option Obj} {nm T : String}
end
end PySem.W
namespace Kh
open PySem PySem.Spec L2
section
variable {X : Cx} {T : Bool} {τ : TEnv} {M : Mem} {P : PK'} {E : XKx} {a b e : Expr} {pos : Pos} {k : Nat} {fa C : Addr} {fd : FuncData} {ps : List Str} {S : Spc} {W : WX} {op : Operator} {cl : OK → Addr × List Str} {pr : OK → Bool}
end
end Kh

set_option Elab.async false
set_option linter.all false
set_option maxRecDepth 100000
set_option maxHeartbeats 1000000
namespace Kh
open PySem PySem.Spec L2
/-! ### a comprehension's list as a cell -/
section
variable {X : Cx} {T : Bool} {tg iter elt e a b c : Expr} {τ : TEnv} {M : Mem} {E : XKx} {pos p : Pos} {vs : List Nat} {P : PK'}
end
section
variable {X : Cx} {T : Bool} {tg iter elt : Expr} {τ : TEnv} {M : Mem} {pos : Pos} {P : PK'} {rest : List Stmt} {R : RK}
end
/-! ### tuple(a list that is told as data or as a cell) -/
section
variable {X : Cx} {M : Mem} {P : PK'} {α : Type}
end
end Kh

set_option Elab.async false
set_option linter.all false
set_option maxRecDepth 100000
set_option maxHeartbeats 1000000
namespace Kh
open PySem PySem.Spec L2
/-! ### not None, as it stands -/
section
variable {X : Cx} {T : Bool} {M : Mem} {P : PK'}
end
end Kh

set_option Elab.async false
set_option linter.all false
set_option maxRecDepth 100000
set_option maxHeartbeats 1000000
namespace Kh
open PySem PySem.Spec L2
open PySem.SeqAt (EqAt RcAt RcNeAt)
/-- a new list stands as a cell -/
theorem cell_new {K : PySem.W.Frag} {G H : Hp} {M : Mem} {p : Addr} {ds : List Dat} {vs : List V} (h1 : Hst K G M H) (hp' : H p = none) (dvs : DenL K G ds vs) : Stp G M H G ((p, .lst ds) :: M) (upd H p (.lst vs)) ∧ Hst K G ((p, .lst ds) :: M) (upd H p (.lst vs)) := by
  have nM : p ∉ adr M := fun z => h1.there p z hp'
  have ha : adr ((p, MC.lst ds) :: M) = p :: adr M := rfl
  have kp : ∀ b o, H b = some o → (upd H p (.lst vs)) b = some o := fun b o e => by rw [upd_ne (ne_of_none e hp')]; exact e
  refine ⟨⟨Same.refl _, fun b o _ e => kp b o e, fun _ _ _ g => g, fun b hb => ?_⟩, ⟨fun b o e => kp b o (h1.sub b o e), fun c hc => ?_, fun b hb => ?_, ?_⟩⟩
  · rw [ha] at hb
    rcases List.mem_cons.mp hb with rfl | hb
    · exact .inr hp'
    · exact .inl hb
  · rcases List.mem_cons.mp hc with rfl | hc
    · exact ⟨vs, upd_same, dvs⟩
    · exact (h1.mem c hc).up (Same.refl _) fun b hb o e => kp b o e
  · rw [ha] at hb
    rcases List.mem_cons.mp hb with rfl | hb
    · exact h1.sub.free hp'
    · exact h1.out b hb
  · rw [ha]
    exact List.nodup_cons.mpr ⟨nM, h1.nd⟩
section
variable {X : Cx} {T : Bool} {M : Mem} {P : PK'}
end
end Kh

set_option Elab.async false
set_option linter.all false
set_option maxRecDepth 100000
set_option maxHeartbeats 1000000
namespace Kh
open PySem PySem.Spec L2
/-! ### [y for x in e for y in x] as a value -/
def FlatQ (X : Cx) (scope : Scope) (vs vs1 : List Nat) (tg tg1 iter1 elt : Expr) (τ : TEnv) (P : PK') : List Dat → Mem → (Mem → Prop) → Prop := fun ds M1 Ok => ∃ xss : List (List Dat), ds = xss.map Dat.lst ∧ xss.flatten.length ≤ sizeLine ∧ Ok M1 ∧ P (.lst xss.flatten) M1 ∧
      ∀ (ds : List Dat) (s : Shared) (H : Hp) (C : Addr) (cl : List (Str × Addr)) (fp : List Addr), GC (Cx.Bk X scope s H C cl fp) vs tg (.lst ds) (wipeT τ vs) M1 (fun τ2 M2 => M2 = M1 ∧
        (∀ (s : Shared) (H : Hp) (C : Addr) (cl : List (Str × Addr)) (fp : List Addr), EI (Cx.Bk X scope s H C cl fp) tg1 iter1 τ2 M1 (fun ds' M3 Ok => ds' = ds ∧ M3 = M1 ∧ Ok M1) E0') ∧
        ∀ (d : Dat) (s : Shared) (H : Hp) (C : Addr) (cl : List (Str × Addr)) (fp : List Addr), GC (Cx.Bk X scope s H C cl fp) vs1 tg1 d (wipeT τ2 vs1) M1 (fun τ3 M4 => M4 = M1 ∧
          ∀ (s : Shared) (H : Hp) (C : Addr) (cl : List (Str × Addr)) (fp : List Addr), EX (Cx.Bk X scope s H C cl fp) false elt τ3 M1 (fun y M5 => y = d ∧ M5 = M1) E0'))
def pflat {α : Type} (xss : List (List α)) : Res (List α) := guard (xss.flatten.length ≤ sizeLine) xss.flatten
section
variable {X : Cx} {T : Bool} {tg iter elt tg1 iter1 : Expr} {τ : TEnv} {M : Mem} {E : XKx} {pos : Pos} {P : PK'}
theorem ex_flat {scope : Scope} (own : List (Str × Nat)) (vs1 : List Nat) (h : EI X tg iter τ M (FlatQ X scope (own.map (·.2)) vs1 tg tg1 iter1 elt τ P) E) (hv : ∀ i ∈ vs1, i ∈ own.map (·.2) := by decide)
    (ok : BlkOk X.N X.env.scope scope own := by exact blkOk_by (by first | decide +kernel | kernel_rfl)) (hN : X.N.Nodup := by first | decide +kernel | exact of_decide_eq_true (by kernel_rfl)) (hc : X.calm = true := by rfl) (hs : ∀ x, foldedSetIterable iter X.env x = pure x := by intro _; rfl) (hs1 : ∀ env x, foldedSetIterable iter1 env x = pure x := by intro _ _; rfl) :
    EX X T (.ListComp elt [⟨tg, iter, [], 0⟩, ⟨tg1, iter1, [], 0⟩] scope pos) τ M P E := .mk fun W tk σ G H hE hH Q hP hX =>
  tW_of (pe_lc2 hc hN pi_W ok hv pg_fam pt_fam pi_fam pg_fam pt_fam pe_fam hs hs1) (flat_read h tk hE hH hP hX)
theorem flatT {α : Type} (f : α → Dat) {xss : List (List α)} {scope : Scope} {vs vs1 : List Nat} {Q : List α → Prop} {E1 : Er → Prop} {Ok : Mem → Prop} {M1 : Mem} (h : (pflat xss).Out Q E1) (hOk : Ok M1)
    (hb : ∀ (ds : List Dat) (s : Shared) (H : Hp) (C : Addr) (cl : List (Str × Addr)) (fp : List Addr), GC (Cx.Bk X scope s H C cl fp) vs tg (.lst ds) (wipeT τ vs) M1 (fun τ2 M2 => M2 = M1 ∧
        (∀ (s : Shared) (H : Hp) (C : Addr) (cl : List (Str × Addr)) (fp : List Addr), EI (Cx.Bk X scope s H C cl fp) tg1 iter1 τ2 M1 (fun ds' M3 Ok => ds' = ds ∧ M3 = M1 ∧ Ok M1) E0') ∧
        ∀ (d : Dat) (s : Shared) (H : Hp) (C : Addr) (cl : List (Str × Addr)) (fp : List Addr), GC (Cx.Bk X scope s H C cl fp) vs1 tg1 d (wipeT τ2 vs1) M1 (fun τ3 M4 => M4 = M1 ∧
          ∀ (s : Shared) (H : Hp) (C : Addr) (cl : List (Str × Addr)) (fp : List Addr), EX (Cx.Bk X scope s H C cl fp) false elt τ3 M1 (fun y M5 => y = d ∧ M5 = M1) E0')))
    (fin : ∀ ys, Q ys → P (lstD f ys) M1) : FlatQ X scope vs vs1 tg tg1 iter1 elt τ P (xss.map (lstD f)) M1 Ok := by
  have g := gd h
  have e : (xss.map fun xs => xs.map f).flatten = xss.flatten.map f := by rw [List.map_flatten]
  refine ⟨xss.map fun xs => xs.map f, by rw [List.map_map]; rfl, ?_, hOk, ?_, hb⟩
  · rw [e, List.length_map]; exact g.1
  · rw [e]; exact fin _ g.2
end
/-! ### max(a list of whole numbers) -/
def maxL : List Int → Int
  | [] => 0
  | x :: xs => xs.foldl max x
theorem maxF_ge : ∀ {xs : List Int} {x : Int}, x ≤ xs.foldl max x ∧ ∀ y ∈ xs, y ≤ xs.foldl max x
  | [], x => ⟨Int.le_refl _, fun y h => by simp at h⟩
  | z :: xs, x => by
    obtain ⟨h1, h2⟩ := maxF_ge (xs := xs) (x := max x z)
    refine ⟨by show x ≤ xs.foldl max (max x z); omega, fun y hy => ?_⟩
    show y ≤ xs.foldl max (max x z)
    rcases List.mem_cons.mp hy with rfl | hy
    · omega
    · exact h2 y hy
theorem maxF_mem : ∀ {xs : List Int} {x : Int}, xs.foldl max x = x ∨ xs.foldl max x ∈ xs
  | [], x => .inl rfl
  | z :: xs, x => by
    show xs.foldl max (max x z) = x ∨ xs.foldl max (max x z) ∈ z :: xs
    rcases maxF_mem (xs := xs) (x := max x z) with h | h
    · rw [h]
      rcases Int.le_total x z with q | q
      · exact .inr (by rw [Int.max_eq_right q]; exact List.mem_cons_self)
      · exact .inl (Int.max_eq_left q)
    · exact .inr (List.mem_cons_of_mem _ h)
theorem maxL_mem {ns : List Int} (h : 0 < ns.length) : maxL ns ∈ ns := by
  cases ns with
  | nil => cases h
  | cons x xs => rcases maxF_mem (xs := xs) (x := x) with e | e
                 · show xs.foldl max x ∈ _; rw [e]; exact List.mem_cons_self
                 · exact List.mem_cons_of_mem _ e
theorem maxL_ge {ns : List Int} : ∀ y ∈ ns, y ≤ maxL ns := by
  cases ns with
  | nil => intro y h; simp at h
  | cons x xs =>
    intro y h
    rcases List.mem_cons.mp h with rfl | h
    · exact maxF_ge.1
    · exact maxF_ge.2 y h
def pmax (ns : List Int) : Res Int := guard (0 < ns.length) (maxL ns)
section
variable {X : Cx} {T : Bool} {M : Mem} {P : PK'} {E1 : Er → Prop}
theorem c_maxL {ns : List Int} {Q : Int → Prop} (h : (pmax ns).Out Q E1) (hk : ∀ m, Q m → P (.int m) M) (hc : X.calm = true := by rfl) : BC X (.builtin "max") [lstD Dat.int ns] M P := bc_of (cr_max hc) fun G H vs hH dv Q hP => by
  obtain ⟨v, rfl, d⟩ := one_inv dv
  obtain ⟨p, us, rfl, g, dl⟩ := d.lst_inv
  rw [dl.ints] at g
  have g2 := gd h
  refine ⟨p, ns, rfl, SqL.of (hH.sub _ _ g), g2.1, fun m hm hy => ?_⟩
  have e : m = maxL ns := Int.le_antisymm (maxL_ge m hm) (hy _ (maxL_mem g2.1))
  rw [e]
  exact hP _ _ _ _ _ (hk _ g2.2) Stp.refl hH den_int
end
/-! ### sorted(set(pairs)) -/
def psrt (rows : List (Int × Int)) : Res (List (Int × Int)) := guard (rows.length < 64 ∧ (rows.all fun p => decide (0 ≤ p.1) && decide (0 ≤ p.2)) = true) (sortU rows)
theorem psrt_out {rows : List (Int × Int)} {Q : List (Int × Int) → Prop} {E1 : Er → Prop} (h : (psrt rows).Out Q E1) : (rows.length < 64 ∧ ∀ p ∈ rows, 0 ≤ p.1 ∧ 0 ≤ p.2) ∧ Q (sortU rows) := by
  have g := gd h
  refine ⟨⟨g.1.1, fun p hp => ?_⟩, g.2⟩
  have := List.all_eq_true.mp g.1.2 p hp
  rw [Bool.and_eq_true, decide_eq_true_eq, decide_eq_true_eq] at this
  exact this
/-! ### a call of what an expression tells -/
section
variable {X : Cx} {τ : TEnv} {M : Mem} {P : PK'} {E : XKx} {cal e : Expr} {es : List Expr} {pos : Pos}
end
end Kh

set_option Elab.async false
set_option linter.all false
set_option maxRecDepth 100000
set_option maxHeartbeats 1000000
namespace Kh
open PySem PySem.Spec L2
section
variable {X : Cx} {T : Bool} {M : Mem} {P : PK'}
/-- list + list, the new one as a cell -/
theorem o_catNew {x y : Dat} {xs ys : List Dat} (lx : LsD M x xs) (ly : LsD M y ys) (hl : xs.length + ys.length ≤ sizeLine) (h : ∀ q, P (.raw (.ref q)) ((q, .lst (xs ++ ys)) :: M)) : OP X T (binaryOp .Add) x y M P := op_of op_cat fun G H v u hH dx dy Q hP => by
  obtain ⟨p, vs, rfl, g1, d1⟩ := lx.get hH dx
  obtain ⟨q, us, rfl, g2, d2⟩ := ly.get hH dy
  refine ⟨p, q, vs, us, rfl, rfl, g1, g2, by rw [d1.length, d2.length]; exact hl, fun r hr => ?_⟩
  obtain ⟨s2, h2⟩ := cell_new hH hr (d1.append d2)
  exact hP _ _ _ _ _ (h r) s2 h2 den_raw
end
end Kh
namespace Kh
open PySem PySem.Spec L2
section
variable {X : Cx} {T : Bool} {τ : TEnv} {M : Mem} {P : PK'} {E : XKx} {e : Expr} {p1 p2 pos1 pos2 : Pos}
theorem ex_srtSetT (hm1 : X.mg "sorted" = none) (hm2 : X.mg "set" = none) (hu : X.A.units + 64 < cLine) (h : EX X T e τ M (fun d M1 => ∃ rows : List (Int × Int), d = lstD ipD rows ∧ ∃ Q E1, (psrt rows).Out Q E1 ∧ ∀ z, Q z → P (lstD ipD z) M1) E) (hc : X.calm = true := by rfl)
    (hg1 : Gl X "sorted" := by rfl) (hg2 : Gl X "set" := by rfl) (he1 : starEach [.Call (.Name "set" p2) [e] [] pos2] X.env = (false, eval (.Call (.Name "set" p2) [e] [] pos2) X.env) :: starEach [] X.env := by rfl) (he2 : starEach [e] X.env = (false, eval e X.env) :: starEach [] X.env := by rfl)
    (hp1 : (backTo pos1 (starEach [] X.env)).any (·.1) = false := by rfl) (hp2 : (backTo pos2 (starEach [] X.env)).any (·.1) = false := by rfl) :
    EX X T (.Call (.Name "sorted" p1) [.Call (.Name "set" p2) [e] [] pos2] [] pos1) τ M P E :=
  ex_srtSet hm1 hm2 (h.imp (fun d M1 ⟨rows, ed, Q, E1, ho, hk⟩ => ⟨rows, ed, (psrt_out ho).1, hk _ (psrt_out ho).2⟩) fun _ _ x => x) hu hc hg1 hg2 he1 he2 hp1 hp2
end
end Kh

set_option Elab.async false
set_option linter.all false
set_option maxRecDepth 100000
set_option maxHeartbeats 1000000
namespace Kh
open PySem PySem.Spec L2
/-! ### calls with keywords, with defaults -/
def tWK (X : Cx) (kws : List Keyword) : TA := fun σ H Q => ∀ (pos : Pos) pins s, Inv X pins σ H s → wpAny (model X.prog X.w) X.A (evalAll ((backToKw pos (keywordEach kws X.env)).map (·.2))) (L2.AP X pins σ Q) X.xe s
theorem pk_W {X : Cx} {kws : List Keyword} : PK X kws (tWK X kws) := ⟨fun pos pins s σ H Q I h => h pos pins s I⟩
theorem tWK_of {X : Cx} {kws : List Keyword} {t : TA} {σ : L2.St} {H : Hp} {Q : List V → Hp → Prop} (h : PK X kws t) (q : t σ H Q) : tWK X kws σ H Q := fun pos pins s I => h.run pos pins s σ H Q I q
structure EKw (X : Cx) (kws : List Keyword) (τ : TEnv) (M : Mem) (P : List Dat → Mem → Prop) (E : XKx) : Prop where
  run : ∀ W, Takes X W → ∀ σ G H, DenE X.K τ G σ → Hst X.K G M H → ∀ Q, CA' X.K G M H P Q → CX' X.K G M H E (fun c d H2 => W c d σ H2) → tWK X kws σ H Q
/-- where a parameter's value comes from -/
inductive Src where
  | p (i : Nat) | k (i : Nat) | d (x : Dat) (v : V) (u : Value)
def Src.dat (ds zs : List Dat) : Src → Dat
  | .p i => ds.getD i .non
  | .k i => zs.getD i .non
  | .d x _ _ => x
def Src.vv (vs zs : List V) : Src → V
  | .p i => vs.getD i .non
  | .k i => zs.getD i .non
  | .d _ v _ => v
def Src.val (us ws : List Value) : Src → Value
  | .p i => us.getD i .none
  | .k i => ws.getD i .none
  | .d _ _ u => u
def Src.Ok (K : PySem.W.Frag) : Src → Prop
  | .d x v u => (∀ G, Den K G x v) ∧ RelV v u
  | _ => True
structure KwB (K : PySem.W.Frag) (fd : FuncData) (ps : List Str) (n : Nat) (ks : List Str) (t : List Src) : Prop where
  to : ∀ (s : Shared) (us ws : List Value), K.In s.heap → us.length = n → ws.length = ks.length → BindsTo s fd ⟨us, ks.zip ws⟩ (ps.zip (t.map (Src.val us ws)))
  ok : ∀ x ∈ t, x.Ok K
theorem okn {K : PySem.W.Frag} : ∀ x ∈ ([] : List Src), x.Ok K := fun x h => by simp at h
theorem okc {K : PySem.W.Frag} {x : Src} {t : List Src} (h : x.Ok K) (r : ∀ y ∈ t, y.Ok K) : ∀ y ∈ x :: t, y.Ok K := fun y hy => by
  rcases List.mem_cons.mp hy with rfl | hy
  · exact h
  · exact r y hy
theorem vals_getD {vs : List V} {us : List Value} (r : Vals vs us) (i : Nat) : RelV (vs.getD i .non) (us.getD i .none) := by
  induction r generalizing i with
  | nil => cases i <;> rfl
  | cons h r ih =>
    cases i with
    | zero => exact h
    | succ i => exact ih i
theorem denL_getD {K : PySem.W.Frag} {G : Hp} {ds : List Dat} {vs : List V} (h : DenL K G ds vs) (i : Nat) : Den K G (ds.getD i .non) (vs.getD i .non) := by
  by_cases hi : i < ds.length
  · obtain ⟨v, e, d⟩ := h.get (List.getElem?_eq_getElem hi)
    simp only [List.getD, List.getElem?_eq_getElem hi, e, Option.getD_some]
    exact d
  · have hv : ¬ i < vs.length := by rw [h.length]; exact hi
    simp only [List.getD, List.getElem?_eq_none (Nat.le_of_not_lt hi), List.getElem?_eq_none (Nat.le_of_not_lt hv), Option.getD_none]
    exact den_non
theorem src_vals {K : PySem.W.Frag} {vs : List V} {us : List Value} {zs : List V} {ws : List Value} (r : Vals vs us) (q : Vals zs ws) : ∀ {t : List Src}, (∀ x ∈ t, x.Ok K) → Vals (t.map (Src.vv vs zs)) (t.map (Src.val us ws))
  | [], _ => .nil
  | x :: t, h => .cons (by
      cases x with
      | p i => exact vals_getD r i
      | k i => exact vals_getD q i
      | d x v u => exact (h _ List.mem_cons_self).2) (src_vals r q fun y hy => h y (List.mem_cons_of_mem _ hy))
theorem src_den {K : PySem.W.Frag} {G : Hp} {ds zs : List Dat} {vs ws : List V} (r : DenL K G ds vs) (q : DenL K G zs ws) : ∀ {t : List Src}, (∀ x ∈ t, x.Ok K) → DenL K G (t.map (Src.dat ds zs)) (t.map (Src.vv vs ws))
  | [], _ => .nil
  | x :: t, h => .cons (by
      cases x with
      | p i => exact denL_getD r i
      | k i => exact denL_getD q i
      | d x v u => exact (h _ List.mem_cons_self).1 G) (src_den r q fun y hy => h y (List.mem_cons_of_mem _ hy))
theorem binds_d {K : PySem.W.Frag} {s : Shared} {fd : FuncData} {args : Args} {r : List (Str × Value)} {T : Addr} {o : Obj} {its : Array Value} {n : Nat} {k : Option (Array Value) → Sem (List (Str × Value))} (X : K.In s.heap) (lT : K.lookup T = some o) (oT : o.data = .seq its n)
    (h1 : bindArgs fd args = seqItems? (.ref T) >>= k) (h2 : k (some its) = pure r) : BindsTo s fd args r := BindsTo.of_looks fun M => by
  rw [h1]; exact looks_items X lT oT (.of_pure h2)
theorem hk1 {K : PySem.W.Frag} {D : Addr} {x : Str} {v : Value} (h : PySem.W.nsIn K D x = some (some v)) : ∀ q ∈ [(x, v)], PySem.W.nsIn K D q.1 = some (some q.2) := fun q hq => by
  rw [List.mem_singleton.mp hq]; exact h
section
variable {X : Cx} {T : Bool} {τ : TEnv} {M : Mem} {P : PK'} {E : XKx} {e : Expr} {es : List Expr} {pos p kpos : Pos} {k n : Nat} {f : Addr} {fd : FuncData} {ps ks : List Str} {S : Spc} {x : Str} {nm : Option Str} {kws : List Keyword} {t : List Src}
theorem ek_nil {P : List Dat → Mem → Prop} (h : P [] M) : EKw X [] τ M P E := .mk fun W tk σ G H hE hH Q hP hX => tWK_of pk_nil (hP _ _ _ _ _ h Stp.refl hH .nil)
theorem ek_cons {P : List Dat → Mem → Prop} (h : EX X false e τ M (fun d M1 => EKw X kws τ M1 (fun ds M2 => P (d :: ds) M2) E) E) : EKw X (⟨nm, e, kpos⟩ :: kws) τ M P E := by
  refine .mk ?_; intro W tk σ G H hE hH Q hP hX
  refine tWK_of (pk_cons pe_W pk_W) ?_
  refine h.run W tk σ G H hE hH _ ?_ hX
  intro d M1 v G1 H1 hb s1 h1 dv
  refine hb.run W tk σ G1 H1 (hE.up s1.gg) h1 _ ?_ (hX.step s1)
  intro ds M2 vs G2 H2 ho s2 h2 dvs
  exact hP (d :: ds) M2 (v :: vs) G2 H2 ho (s1.trans s2) h2 (.cons (dv.up s2.gg) dvs)
theorem run_dN {pins : List (Addr × Obj)} {σ : L2.St} {H : Hp} {s : Shared} {Q : VK} {us ws : List Value} {vs zs : List V} {W : WX} (F : FnD X.prog X.w X.K X.mg X.base k f fd ps S) (hr : Room k X.A) (hb : KwB X.K fd ps n ks t) (tk : Takes X W)
    (I : Inv X pins σ H s) (r : Vals vs us) (rz : Vals zs ws) (l1 : vs.length = n) (l2 : zs.length = ks.length) (h : toSp X.K S (t.map (Src.vv vs zs)) H Q (fun c d H2 => W c d σ H2)) : wpAny (model X.prog X.w) X.A (call (.ref f) us (ks.zip ws)) (EP X pins σ Q) X.xe s := by
  have r2 := src_vals r rz hb.ok
  refine wpAny_call (codeAny_mono (F.run X.A X.stack s H ⟨us, ks.zip ws⟩ (t.map (Src.val us ws)) (t.map (Src.vv vs zs)) Q (fun c d H2 => W c d σ H2) hr I.env0 (hb.to s us ws I.kIn (r.length.symm.trans l1) (rz.length.symm.trans l2)) r2 h) fun r s' hq => ?_)
  cases r with
  | error e => exact tk e s' (XE.of_call I (fun cls d H' h => h) hq)
  | ok fl =>
    cases fl with
    | ret u => exact I.after hq
    | next => exact False.elim hq
    | brk => exact False.elim hq
    | cont => exact False.elim hq
/-- f(e, .., k = v, ..) -/
theorem ex_callK (F : FnD X.prog X.w X.K X.mg X.base k f fd ps S) (hr : Room k X.A) (hm : X.mg x = some (.ref f)) (hk : PySem.W.keepIn X.K (.ref f) = true) (hb : KwB X.K fd ps n ks t)
    (h : EA X T (e :: es) τ M (fun ds M1 => ds.length = n ∧ EKw X kws τ M1 (fun zs M2 => zs.length = ks.length ∧ S (t.map (Src.dat ds zs)) M2 (UpP P) (UpP E)) E) E) (hg : Gl X x := by rfl)
    (hall : (backToKw pos (keywordEach kws X.env)).all (·.1.isSome) = true := by rfl) (hks : (backToKw pos (keywordEach kws X.env)).filterMap (·.1) = ks := by rfl)
    (hdb : (x == ("__debug__" : Str)) = false := by decide) (he : starEach (e :: es) X.env = (false, eval e X.env) :: starEach es X.env := by rfl)
    (hpl : ((backTo pos (starEach (e :: es) X.env)).any (·.1) || (backToKw pos (keywordEach kws X.env)).any (·.1.isNone)) = false := by rfl) :
    EX X T (.Call (.Name x p) (e :: es) kws pos) τ M P E := by
  refine .mk ?_; intro W tk σ G H hE hH Q hP hX pins s k0 I
  refine wpAny_Call_Name_kw (ld_glob I hg hm ?_ hdb)
  have hA := h.run W tk σ G H hE hH (fun vs H1 => vs.length = n ∧ tWK X kws σ H1 fun zs H2 => zs.length = ks.length ∧ toSp X.K S (t.map (Src.vv vs zs)) H2 Q (fun c d H3 => W c d σ H3)) (fun ds M1 vs G1 H1 ⟨hl, ha⟩ s1 h1 dv => by
    refine ⟨by rw [dv.length]; exact hl, ha.run W tk σ G1 H1 (hE.up s1.gg) h1 _ (fun zs M2 ws G2 H2 ⟨hl2, hS⟩ s2 h2 dw => ?_) (hX.step s1)⟩
    exact ⟨by rw [dw.length]; exact hl2, ap_toSp (ap_all hS) (src_den (dv.up s2.gg) dw hb.ok) h2 (hP.step (s1.trans s2)) (hX.step (s1.trans s2))⟩) hX
  refine PySem.W.callWith_KW (h₀ := X.base) I.ok.mod.kin hk hall (thn (hA pos pins s k0 I) fun us s1 ⟨vs, H1, I1, r, l1, q⟩ => ?_) hpl he
  refine thn (q pos pins s1 I1) fun ws s2 ⟨zs, H2, I2, rz, l2, q2⟩ => ⟨I2.kIn, ?_⟩
  rw [hks]
  exact run_dN F hr hb tk I2 r rz l1 l2 q2
end
/-! ### a list backwards; list(range(..)); in a list of data -/
section
variable {X : Cx} {T : Bool} {τ : TEnv} {M : Mem} {P : PK'} {E : XKx} {e a b : Expr} {pos p p1 p2 p3 : Pos} {kk : Nat} {α : Type} {E1 : Er → Prop}
end
end Kh

set_option Elab.async false
set_option linter.all false
set_option maxRecDepth 100000
set_option maxHeartbeats 1000000
namespace Kh
open PySem PySem.Spec L2
/-! ### new lists as cells: comprehensions, list(xs), xs[::-1] -/
section
variable {X : Cx} {T : Bool} {tg iter elt e a : Expr} {τ : TEnv} {M : Mem} {E : XKx} {pos p p1 p2 p3 : Pos} {kk : Nat} {P : PK'} {α : Type} {E1 : Er → Prop}
end
/-! the joining rules, whatever is wanted behind -/
section
variable {X : Cx} {T : Bool} {τ : TEnv} {M : Mem} {P : PK'} {E : XKx} {t e : Expr} {p q rest : List Stmt} {pos : Pos} {α σ : Type} {E1 : Er → Prop} {R : RK}
theorem exJQ {m : Res α} (f : α → Dat) {Q : α → Prop} (h : m.Out Q E1) (he : ∀ Q : α → Prop, m.Out Q E1 → EX X T e τ M (fun d M1 => M1 = M ∧ ∃ v, d = f v ∧ Q v) E) (hk : ∀ v, Q v → P (f v) M) : EX X T e τ M P E := exJ f h (he Q) hk
theorem etJQ {m : Res Bool} {Q : Bool → Prop} {Pb : Bool → Mem → Prop} (h : m.Out Q E1) (he : ∀ Q : Bool → Prop, m.Out Q E1 → ET X T e τ M (fun k M1 => M1 = M ∧ Q k) E) (hk : ∀ v, Q v → Pb v M) : ET X T e τ M Pb E := etJ h (he Q) hk
theorem ws_ifQ {m : Res σ} {Q : σ → Prop} (JJ : (σ → Prop) → TEnv → Mem → Prop) (h : m.Out Q E1)
    (hif : ∀ Q : σ → Prop, m.Out Q E1 → ET X T t τ M (fun k M1 => (k = true → WS X T p τ M1 (thenR (JJ Q) R)) ∧ (k = false → WS X T q τ M1 (thenR (JJ Q) R))) (fun x M1 => R (.ex x τ) M1))
    (hk : ∀ τ' M', JJ Q τ' M' → WS X T rest τ' M' R) : WS X T (.If t p q pos :: rest) τ M R := ws_ifJ JJ h (hif Q) hk
end
section
variable {α β γ : Type} {m : Res α} {Q S : α → Prop} {E1 : Er → Prop} {E : XKx} {M : Mem} {ex : Er → Exn}
end
/-! ### == of data, a list's cell among them -/
def CD {τ : Type} {E : τ → Dat} [DecidableEq τ] (K : PySem.W.Frag) (M : Mem) (d : Dat) (p : PyE E) (a : τ) : Prop := ∀ G H v, Hst K G M H → Den K G d v → Dp K H v (p.py a)
section
variable {X : Cx} {T : Bool} {M : Mem} {P : PK'} {τ : Type} {E : τ → Dat} [DecidableEq τ] {E1 : Er → Prop} {da db : Dat}
end
end Kh

set_option Elab.async false
set_option linter.all false
set_option maxRecDepth 100000
set_option maxHeartbeats 1000000
namespace Kh
open PySem PySem.Spec L2
/-! ### sorted(a list of ints) -/
section
variable {X : Cx} {M : Mem} {P : PK'} {E1 : Er → Prop}
end
end Kh

set_option Elab.async false
set_option linter.all false
set_option maxRecDepth 100000
set_option maxHeartbeats 1000000
namespace Kh
open PySem PySem.Spec L2
open PySem.W (EachIs dataLe AllAlike Sortable)
/-- what an option holds; nothing is told where it holds nothing -/
def punO {α : Type} : Option α → Res α
  | some a => .ok a
  | none => .bad
@[elab_as_elim] theorem punE {α β : Type} {k : α → Res β} {P : β → Prop} {E : Er → Prop} {motive : Option α → Prop} (o : Option α) (h : ((punO o).bind k).Out P E) (hk : ∀ a, (k a).Out P E → motive (some a)) : motive o := by
  cases o with
  | none => exact h.elim
  | some a => exact hk a h
@[simp] theorem punO_some {α : Type} {a : α} : punO (some a) = .ok a := rfl
/-! ### sorted(a list of data), any length -/
/-- data that sorts: all of one shape -/
structure PyS {α : Type} {e : α → Dat} [DecidableEq α] (p : PyE e) : Prop where
  al : ∀ a b, PySem.W.alike (p.py a) (p.py b) = true
  so : (∀ a, ∃ x r, p.py a = .tuple (x :: r)) ∨ ∀ a, p.py a ≠ .none ∧ ∀ xs, p.py a ≠ .tuple xs
theorem pysI : PyS pyI := ⟨fun a b => by simp [pyI, PySem.W.alike], .inr fun a => ⟨fun h => by simp [pyI] at h, fun xs h => by simp [pyI] at h⟩⟩
theorem pys2 {α β : Type} {e : α → Dat} {f : β → Dat} [DecidableEq α] [DecidableEq β] {p : PyE e} {q : PyE f} (hp : PyS p) (hq : PyS q) : PyS (py2 p q) := ⟨fun a b => by
  simp only [py2, PySem.W.alike, PySem.W.alikeAll, Bool.and_eq_true]; exact ⟨hp.al _ _, hq.al _ _, trivial⟩, .inl fun a => ⟨_, _, rfl⟩⟩
def leD {α : Type} {e : α → Dat} [DecidableEq α] (p : PyE e) : α → α → Bool := dataLe false p.py
def psrtD {α : Type} {e : α → Dat} [DecidableEq α] (p : PyE e) (xs : List α) : Res (List α) := guard (xs.length ≤ sizeLine) (xs.mergeSort (leD p))
section
variable {X : Cx} {M : Mem} {P : PK'} {E1 : Er → Prop} {α : Type} {e : α → Dat} [DecidableEq α]
theorem each_den {K : PySem.W.Frag} {G : Hp} : ∀ {xs : List α} {ws : List V} {us : List Value}, DenL K G (xs.map e) ws → Vals ws us → EachIs (fun u b => ∃ x, RelV x u ∧ Den K G (e b) x) us xs
  | [], _, _, h, r => by
    rw [h.nil_inv] at r
    cases r
    exact .nil
  | x :: xs, _, _, h, r => by
    obtain ⟨v, ws, rfl, h1, h2⟩ := h.cons_inv
    cases r with
    | cons r1 r2 => exact .cons ⟨v, r1, h1⟩ (each_den h2 r2)
theorem den_each {K : PySem.W.Frag} {G : Hp} : ∀ {xs : List α} {us : List Value}, EachIs (fun u b => ∃ x, RelV x u ∧ Den K G (e b) x) us xs → ∃ ws, Vals ws us ∧ DenL K G (xs.map e) ws
  | [], _, h => by cases h; exact ⟨[], .nil, .nil⟩
  | x :: xs, _, h => by
    cases h with
    | cons h1 h2 =>
      obtain ⟨v, r, d⟩ := h1
      obtain ⟨ws, rs, ds⟩ := den_each h2
      exact ⟨v :: ws, .cons r rs, .cons d ds⟩
theorem each_reads {K : PySem.W.Frag} {G : Hp} {R : Value → α → Prop} : ∀ {xs : List α} {us : List Value}, EachIs (fun u b => ∃ x, RelV x u ∧ Den K G (e b) x) us xs → (∀ u b, (∃ x, RelV x u ∧ Den K G (e b) x) → R u b) → EachIs R us xs
  | [], _, h, _ => by cases h; exact .nil
  | x :: xs, _, h, f => by
    cases h with
    | cons h1 h2 => exact .cons (f _ _ h1) (each_reads h2 f)
def rSortD (K : PySem.W.Frag) (p : PyE e) : List V → Hp → VK → Prop := fun vs H Q => ∃ (a : Addr) (ws : List V) (G : Hp) (xs : List α), vs = [.ref a] ∧ SqL K H a ws ∧ Same G H ∧ DenL K G (xs.map e) ws ∧
  ∀ ws' q, H q = none → DenL K G ((xs.mergeSort (leD p)).map e) ws' → Q (.ref q) (upd H q (.lst ws'))
theorem cr_sortD (p : PyE e) (hs : PyS p) (hd : p.dep ≤ 60) (hu : X.A.units + 64 < cLine) : CallR X (.builtin "sorted") (rSortD X.K p) := by
  intro pins s σ H vs us Q I r h
  obtain ⟨a, ws, G, xs, rfl, hq, sm, dl, q⟩ := h
  obtain ⟨its, rv, hl, hz⟩ := I.list hq
  rw [Vals.ref1 r]
  have en := each_den dl rv
  have hlen : its.length = xs.length := by rw [← rv.length, dl.length, List.length_map]
  refine PySem.W.sorted_data (vs := its) (bs := xs) (enc := p.py) (R := fun u b => ∃ x, RelV x u ∧ Den X.K G (e b) x) hl.isList en (each_reads en fun u b ⟨x, rx, dx⟩ => Dp.reads I (p.py b) x u (toPy_dp sm _ _ _ dx (p.to b)) rx) ?_ ?_ (by rw [← hlen, ← rv.length]; exact hz) (fun b _ => by have := p.dp b; omega) fun out ho eo => ?_
  · intro d hd d' hd'
    obtain ⟨b, _, rfl⟩ := List.mem_map.mp hd
    obtain ⟨b', _, rfl⟩ := List.mem_map.mp hd'
    exact hs.al b b'
  · rcases hs.so with h | h
    · exact .inl fun d hd => by
        obtain ⟨b, _, rfl⟩ := List.mem_map.mp hd
        exact h b
    · exact .inr fun d hd => by
        obtain ⟨b, _, rfl⟩ := List.mem_map.mp hd
        exact h b
  · obtain ⟨ws', rs, ds⟩ := den_each eo
    obtain ⟨ep, he'⟩ := PyProof.Rows.sortedAll_at s.heap its out.toArray
    have hz' : ws'.length ≤ sizeLine := by rw [rs.length, ho, ← hlen, ← rv.length]; exact hz
    exact ⟨.ref _, upd H (s.heap.objs.size + 1) (.lst ws'), I.laid (t' := s.toks) (fun _ _ => PyProof.Rows.sortedAll_old) (Nat.le_succ _) ⟨hz', out, ep, rs, he'⟩, rfl, q _ _ (I.hok.fresh (Nat.le_succ _)) ds⟩
theorem c_sortD (p : PyE e) (hs : PyS p) {d : Dat} {xs : List α} (l : LsD M d (xs.map e)) (hu : X.A.units + 64 < cLine) {Q : List α → Prop} (h : (psrtD p xs).Out Q E1) (hk : ∀ z, Q z → P (lstD e z) M) (hd : p.dep ≤ 60 := by decide) : BC X (.builtin "sorted") [d] M P := bc_of (cr_sortD p hs hd hu) fun G H vs hH dv Q' hP => by
  obtain ⟨v, rfl, dd⟩ := one_inv dv
  obtain ⟨c, us, rfl, g, dl⟩ := l.get hH dd
  refine ⟨c, us, G, xs, rfl, SqL.of g, hH.sub, dl, fun ws' r hr dl' => ?_⟩
  obtain ⟨s2, h2⟩ := Stp.new (o := .lst ws') hH hr
  exact hP _ _ _ _ _ (hk _ (gd h).2) s2 h2 (den_lst upd_same (dl'.up s2.gg))
end
/-! ### dicts by texts that change -/
section
variable {X : Cx} {T : Bool} {τ : TEnv} {M : Mem} {P : PK'} {E : XKx} {e o i value : Expr} {rest : List Stmt} {R : RK} {pos p pos' cpos apos tpos : Pos} {E1 : Er → Prop} {β : Type}
end
/-! ### x += e, x -= e of ints -/
section
variable {X : Cx} {T : Bool} {τ : TEnv} {M : Mem} {e : Expr} {rest : List Stmt} {R : RK} {pos p : Pos} {x : Str} {i : Int}
end
end Kh

set_option Elab.async false
set_option linter.all false
set_option maxRecDepth 100000
set_option maxHeartbeats 1000000
namespace Kh
open PySem PySem.Spec L2
/-! ### list(range(a, b)), len(set(ints)) -/
section
variable {X : Cx} {T : Bool} {τ : TEnv} {M : Mem} {P : PK'} {E : XKx} {e a b : Expr} {pos p p1 p2 p3 q : Pos} {E1 : Er → Prop}
end
end Kh

set_option Elab.async false
set_option linter.all false
set_option maxRecDepth 100000
set_option maxHeartbeats 4000000
namespace Kh
open PySem PySem.Spec PyProof.Rows L2
/-! ### sorted(set(ints)): a set of a list's ints, as HandS.SetFor has it of a tuple's -/
/-- the set that set() makes -/
abbrev eS (w : World) : Obj := { cls := .type "set", dict := none, data := .set #[] 0 (.fresh 0 0 (!w.params.followText "set-order")) }
/-- the heap behind it -/
abbrev hS (w : World) (h : Heap) : Heap := h.push (eS w)
section
variable {P : Program} {w : World} {A : Around} {E : Value → Shared → Prop} {s : Shared}
end
section
variable {X : Cx} {T : Bool} {τ : TEnv} {M : Mem} {P : PK'} {E : XKx} {e a b : Expr} {pos p p1 p2 p3 q : Pos} {E1 : Er → Prop}
end
end Kh

set_option Elab.async false
set_option linter.all false
set_option maxRecDepth 100000
set_option maxHeartbeats 1000000
namespace Kh
open PySem PySem.Spec L2
/-! ### min(a list of ints) -/
section
variable {X : Cx} {T : Bool} {M : Mem} {P : PK'} {E1 : Er → Prop}
end
end Kh

set_option Elab.async false
set_option linter.all false
set_option maxRecDepth 100000
set_option maxHeartbeats 1000000
namespace Kh
open PySem PySem.Spec L2
/-! ### x += e by an own __iadd__ -/
section
variable {X : Cx} {T : Bool} {τ : TEnv} {M : Mem} {e : Expr} {rest ss : List Stmt} {R : RK} {pos p : Pos} {x : Str} {k : Nat} {fa C : Addr} {fd : FuncData} {ps : List Str} {S : Spc}
end
section
variable {M : Mem} {P : PK'} {E : XKx} {S : Spc} {α : Type} {E1 : Er → Prop}
end
/-! ### a history that is changed is lent to a def that wants data -/
mutual
/-- data in which no list and no instance of C stands -/
def Pln (C : Addr) : Dat → Prop
  | .scr _ | .lst _ => False
  | .tup ds => PlnL C ds
  | .obj D _ ds => D ≠ C ∧ PlnL C ds
  | .xn _ _ _ ds => PlnL C ds
  | .at _ d => Pln C d
  | _ => True
def PlnL (C : Addr) : List Dat → Prop
  | [] => True
  | d :: ds => Pln C d ∧ PlnL C ds
end
/-- the places that are lent -/
structure Lent (C : Addr) (B : List Addr) (G : Hp) : Prop where
  k : ∀ b ∈ B, (∃ dx vs, G b = some (.ins C dx vs) ∧ dx ∈ B) ∨ (∃ q ∈ B, G b = some (.own q)) ∨ ∃ us, G b = some (.lst us)
open Classical in
noncomputable def cutB (B : List Addr) (G : Hp) : Hp := fun b => if b ∈ B then none else G b
section
variable {K : PySem.W.Frag} {G H : Hp} {C : Addr} {B : List Addr}
theorem cutB_out {b : Addr} (h : b ∉ B) : cutB B G b = G b := if_neg h
mutual
theorem pln_den (h : Lent C B G) : ∀ (d : Dat) (v : V), Pln C d → Den K G d v → Den K (cutB B G) d v
  | .non, _, _, q => by simpa [Den] using q
  | .bl _, _, _, q => by simpa [Den] using q
  | .int _, _, _, q => by simpa [Den] using q
  | .str _, _, _, q => by simpa [Den] using q
  | .raw _, _, _, q => by simpa [Den] using q
  | .dic0, _, _, q => by
    simp only [Den] at q ⊢
    obtain ⟨a, e, g⟩ := q
    refine ⟨a, e, ?_⟩
    rw [cutB_out (fun hb => ?_)]; exact g
    rcases h.k a hb with ⟨_, _, z, _⟩ | ⟨_, _, z⟩ | ⟨_, z⟩ <;> (rw [g] at z; cases z)
  | .scr _, _, p, _ => by simp only [Pln] at p
  | .lst _, _, p, _ => by simp only [Pln] at p
  | .tup ds, v, p, q => by
    simp only [Den, Pln] at p q ⊢
    obtain ⟨a, vs, e, s, t⟩ := q
    refine ⟨a, vs, e, ?_, plnL_den h ds vs p t⟩
    rw [cutB_out (fun hb => ?_)]; exact s
    rcases h.k a hb with ⟨_, _, z, _⟩ | ⟨_, _, z⟩ | ⟨_, z⟩ <;> (rw [s] at z; cases z)
  | .obj D ns ds, v, p, q => by
    simp only [Den, Pln] at p q ⊢
    obtain ⟨a, dx, vs, e, s, s2, t⟩ := q
    have ha : a ∉ B := fun hb => by
      rcases h.k a hb with ⟨_, _, z, _⟩ | ⟨_, _, z⟩ | ⟨_, z⟩
      · rw [s] at z
        injection z with z
        injection z with z1 _ _
        exact p.1 z1
      · rw [s] at z; cases z
      · rw [s] at z; cases z
    refine ⟨a, dx, vs, e, ?_, ?_, plnL_den h ds vs p.2 t⟩
    · rw [cutB_out ha]; exact s
    · rw [cutB_out (fun hb => ?_)]; exact s2
      rcases h.k dx hb with ⟨_, _, z, _⟩ | ⟨q', hq', z⟩ | ⟨_, z⟩
      · rw [s2] at z; cases z
      · rw [s2] at z
        injection z with z
        injection z with z
        exact ha (by rw [z]; exact hq')
      · rw [s2] at z; cases z
  | .xn a dd ns ds, v, p, q => by
    simp only [Den, Pln] at p q ⊢
    obtain ⟨vs, e, s, t⟩ := q
    refine ⟨vs, e, ?_, plnL_den h ds vs p t⟩
    rw [cutB_out (fun hb => ?_)]; exact s
    rcases h.k dd hb with ⟨_, _, z, _⟩ | ⟨_, _, z⟩ | ⟨_, z⟩ <;> (rw [s] at z; cases z)
  | .at a d, v, p, q => by
    simp only [Den, Pln] at p q ⊢
    exact ⟨q.1, pln_den h d v p q.2⟩
theorem plnL_den (h : Lent C B G) : ∀ (ds : List Dat) (vs : List V), PlnL C ds → DenL K G ds vs → DenL K (cutB B G) ds vs
  | [], _, _, q => by simpa [DenL] using q
  | d :: ds, vs, p, q => by
    simp only [DenL, PlnL] at p q ⊢
    obtain ⟨v, r, e, s, t⟩ := q
    exact ⟨v, r, e, pln_den h d v p.1 s, plnL_den h ds r p.2 t⟩
end
end
open Classical in
section
variable {K : PySem.W.Frag} {G G2 H H2 : Hp} {C : Addr} {B : List Addr} {M M1 Mp Mq : Mem}
theorem Hst.right {A B : Mem} (h : Hst K G (A ++ B) H) : Hst K G B H := (h.perm List.perm_append_comm).left
theorem Hst.apart {A B : Mem} (h : Hst K G (A ++ B) H) {b : Addr} (ha : b ∈ adr A) (hb : b ∈ adr B) : False := by
  have := h.nd
  rw [adr_append] at this
  exact (List.nodup_append.mp this).2.2 b ha b hb rfl
end
end Kh

set_option Elab.async false
set_option linter.all false
set_option maxRecDepth 100000
set_option maxHeartbeats 1000000
namespace Kh
open PySem PySem.Spec L2
/-! ### for x in an instance whose __iter__ gives iter(a list of its own) -/
/-! ### xs.clear(), xs a cell -/
section
variable {X : Cx} {T : Bool} {τ : TEnv} {M B : Mem} {P : PK'} {E : XKx} {o : Expr} {q : Addr} {pos apos tpos : Pos}
end
/-! ### lending a history to a def, a method, an operator -/
section
variable {X : Cx} {T : Bool} {τ : TEnv} {M : Mem} {P : PK'} {E : XKx} {E1 : Er → Prop} {C D : Addr} {B B1 B2 : List Addr} {α β : Type} {S : Spc} {k : Nat} {fa : Addr} {fd : FuncData} {ps : List Str} {m : Str} {es : List Expr}
end
end Kh

set_option Elab.async false
set_option linter.all false
set_option maxRecDepth 100000
set_option maxHeartbeats 1000000
namespace Kh
open PySem PySem.Spec L2
/-! ### several cells handed to a def -/
section
variable {X : Cx} {T : Bool} {τ : TEnv} {M : Mem} {P : PK'} {E : XKx} {E1 : Er → Prop} {α β : Type} {S : Spc}
end
/-! ### xs.pop(), xs a cell -/
section
variable {X : Cx} {T : Bool} {τ : TEnv} {M B : Mem} {P : PK'} {E : XKx} {E1 : Er → Prop} {o : Expr} {q : Addr} {pos apos tpos : Pos} {α : Type}
end
/-! ### is of bools -/
section
variable {X : Cx} {T : Bool} {M : Mem} {P : PK'} {a b : Bool}
end
/-! ### a cell against [] -/
section
open PySem.SeqAt (EqAt RcAt RcNeAt)
variable {X : Cx} {T : Bool} {M : Mem} {P : PK'} {q : Addr} {α : Type}
end
/-! ### C(k = v, ..) -/
section
variable {X : Cx} {T : Bool} {τ : TEnv} {M : Mem} {P : PK'} {E : XKx} {e : Expr} {es : List Expr} {pos p kpos : Pos} {k n : Nat} {f C : Addr} {fd : FuncData} {ps ks : List Str} {S : Spc} {x : Str} {nm : Option Str} {kws : List Keyword} {t : List Src}
theorem run_makeK {pins : List (Addr × Obj)} {σ : L2.St} {H : Hp} {s : Shared} {Q : VK} {us ws : List Value} {vs zs : List V} {W : WX} (Mk' : Mk X.K C f) (F : FnD X.prog X.w X.K X.mg X.base k f fd ps S) (hr : Room (k + 1) X.A) (hb : KwB X.K fd ps (n + 1) ks t)
    (tk : Takes X W) (I : Inv X pins σ H s) (r : Vals vs us) (rz : Vals zs ws) (l1 : vs.length = n) (l2 : zs.length = ks.length)
    (h : ∀ x dx, H x = none → H dx = none → dx ≠ x → toSp X.K S (t.map (Src.vv (.ref x :: vs) zs)) (upd (upd H dx (.own x)) x (.ins C dx [])) (fun v H2 => v = .non ∧ Q (.ref x) H2) (fun c d H2 => W c d σ H2)) :
    wpAny (model X.prog X.w) X.A (call (.ref C) us (ks.zip ws)) (EP X pins σ Q) X.xe s := by
  have hq := h (s.heap.objs.size + 1) s.heap.objs.size (I.hok.fresh (Nat.le_succ _)) (I.hok.fresh (Nat.le_refl _)) (Nat.ne_of_lt (Nat.lt_succ_self _))
  have I2 := Inv.made (C := C) I
  have r2 := src_vals (.cons (show RelV (V.ref (s.heap.objs.size + 1)) (Value.ref (s.heap.objs.size + 1)) from rfl) r) rz hb.ok
  refine wpAny_call (make_map (f := f) I.kIn Mk'.makes Mk'.init (beq_iff_eq.mp Mk'.fn) (codeAny_mono (F.run _ X.stack _ _ ⟨Value.ref (s.heap.objs.size + 1) :: us, ks.zip ws⟩ (t.map (Src.val (Value.ref (s.heap.objs.size + 1) :: us) ws)) _ _ _ (hr.make C us (ks.zip ws))
    (I2.env0.make C us (ks.zip ws)) (hb.to _ (Value.ref (s.heap.objs.size + 1) :: us) ws I2.kIn (by rw [List.length_cons, ← r.length, l1]) (rz.length.symm.trans l2)) r2 hq) fun r s' hq' => ?_))
  cases r with
  | error e => exact tk e s' (XE.of_call I2 (fun cls d H' h => h) hq')
  | ok fl =>
    cases fl with
    | ret u =>
      obtain ⟨v, H', I3, rv, ev, q3⟩ := I2.after hq'
      subst ev
      exact ⟨rv, ⟨V.ref (s.heap.objs.size + 1), H', I3, rfl, q3⟩⟩
    | next => exact False.elim hq'
    | brk => exact False.elim hq'
    | cont => exact False.elim hq'
/-- keywords alone -/
theorem ex_makeK0 (Mk' : Mk X.K C f) (F : FnD X.prog X.w X.K X.mg X.base k f fd ps S) (hr : Room (k + 1) X.A) (hm : X.mg x = some (.ref C)) (hb : KwB X.K fd ps 1 ks t)
    (h : EKw X kws τ M (fun zs M2 => zs.length = ks.length ∧ ∀ x dx, x ∉ adr M2 → dx ∉ adr M2 → dx ≠ x → AP S (t.map (Src.dat [.raw (.ref x)] zs)) ((x, .ins C dx []) :: M2) (fun d M2 => d = .non ∧ MadeP P x M2) E) E) (hg : Gl X x := by rfl)
    (hall : (backToKw pos (keywordEach kws X.env)).all (·.1.isSome) = true := by rfl) (hks : (backToKw pos (keywordEach kws X.env)).filterMap (·.1) = ks := by rfl)
    (hdb : (x == ("__debug__" : Str)) = false := by decide)
    (hpl : ((backTo pos (starEach [] X.env)).any (·.1) || (backToKw pos (keywordEach kws X.env)).any (·.1.isNone)) = false := by rfl) :
    EX X T (.Call (.Name x p) [] kws pos) τ M P E := by
  refine .mk ?_; intro W tk σ G H hE hH Q hP hX pins s k0 I
  refine wpAny_Call_Name_kw (ld_glob I hg hm ?_ hdb)
  have hA := h.run W tk σ G H hE hH (fun zs H2 => zs.length = ks.length ∧ ∀ x dx, H2 x = none → H2 dx = none → dx ≠ x → toSp X.K S (t.map (Src.vv [.ref x] zs)) (upd (upd H2 dx (.own x)) x (.ins C dx [])) (fun v H3 => v = .non ∧ Q (.ref x) H3) (fun c d H3 => W c d σ H3)) (fun zs M2 ws G2 H2 ⟨hl2, hS⟩ s2 h2 dw => by
    refine ⟨by rw [dw.length]; exact hl2, fun x dx hx hdx ne => ?_⟩
    obtain ⟨h1, s1⟩ := hst_new (C := C) h2 hx hdx ne
    have n1 : x ∉ adr M2 := fun z => h2.there x z hx
    have n2 : dx ∉ adr M2 := fun z => h2.there dx z hdx
    refine ap_toSp (hS x dx n1 n2 ne) (src_den (.cons den_raw .nil) dw hb.ok) h1 (fun d M3 v G3 H3 ⟨e, hm⟩ s3 h3 dd => ?_) ((hX.step s2).step s1)
    subst e
    exact ⟨dd.non_inv, madeP_ce (hP.step s2) hm (s1.trans s3) h3⟩) hX
  refine PySem.W.callWith_KW0 (h₀ := X.base) I.ok.mod.kin Mk'.kp hall (thn (hA pos pins s I) fun ws s2 ⟨zs, H2, I2, rz, l2, q2⟩ => ⟨I2.kIn, ?_⟩) hpl
  rw [hks]
  exact run_makeK (us := []) (vs := []) (n := 0) Mk' F hr hb tk I2 .nil rz rfl l2 q2
end
end Kh

set_option Elab.async false
set_option linter.all false
set_option maxRecDepth 100000
set_option maxHeartbeats 1000000
namespace Kh
open PySem PySem.Spec L2
/-! ### o.f += e by an own __iadd__ of what the field holds -/
section
variable {X : Cx} {T : Bool} {τ : TEnv} {M : Mem} {o e : Expr} {rest ss : List Stmt} {R : RK} {pos tpos : Pos} {f : Str} {k : Nat} {fa C : Addr} {fd : FuncData} {ps : List Str} {S : Spc}
end
/-! ### an instance with a list of its own is given back as data -/
section
variable {X : Cx} {T : Bool} {τ : TEnv} {M : Mem} {e : Expr} {P : PK'} {E : XKx} {C : Addr}
end
/-! ### copiers: their cells, by their addresses -/
section
variable (CC CH : Addr) (fD : Str → Dat) (q : Addr)
end
/-! ### loops over places, told by what lies there -/
section
variable {X : Cx} {T : Bool} {τ : TEnv} {M : Mem} {P : PK'} {E : XKx} {t e iter tg : Expr} {p q body rest : List Stmt} {pos : Pos} {α β σ ρ : Type} {E1 : Er → Prop} {R : RK}
end
/-! ### a store's copiers, handed as a whole; one of them -/
section
variable {X : Cx} {T : Bool} {τ : TEnv} {M : Mem} {P : PK'} {E : XKx} {α β : Type} {E1 : Er → Prop} {S : Spc}
variable {CC CH : Addr} {fD : Str → Dat} {q : Addr}
end
/-! ### o.m(e, .., k = v, ..), and keyword-only parameters left out -/
section
variable {X : Cx} {T : Bool} {τ : TEnv} {M : Mem} {P : PK'} {E : XKx} {e o : Expr} {es : List Expr} {pos p apos : Pos} {m : Str} {n : Nat} {ks : List Str} {kws : List Keyword} {t : List Src}
end
end Kh

set_option Elab.async false
set_option linter.all false
set_option maxRecDepth 100000
set_option maxHeartbeats 1000000
namespace Kh
open PySem PySem.Spec L2
theorem alikeAll_map {α : Type} {e : α → Dat} [DecidableEq α] {p : PyE e} (hp : PyS p) : ∀ xs ys : List α, PySem.W.alikeAll (xs.map p.py) (ys.map p.py) = true
  | [], _ => by simp [PySem.W.alikeAll]
  | _ :: _, [] => by simp [PySem.W.alikeAll]
  | x :: xs, y :: ys => by
    show PySem.W.alikeAll (p.py x :: xs.map p.py) (p.py y :: ys.map p.py) = true
    rw [PySem.W.alikeAll, alikeAll_map hp xs ys, hp.al]; rfl
/-- lists sort -/
theorem pysL {α : Type} {e : α → Dat} [DecidableEq α] {p : PyE e} (hp : PyS p) : PyS (pyL p) := ⟨fun a b => by
  simp only [pyL, PySem.W.alike]; exact alikeAll_map hp a b, .inr fun a => ⟨fun h => by simp [pyL] at h, fun xs h => by simp [pyL] at h⟩⟩

/-! ### a value of any kind that must be of some kind, in the middle of a chain -/
def AsT : Any → Res (List Any)
  | .tup xs => .ok xs
  | _ => .bad
section
variable {β : Type} {cl : OK → Addr × List Str} {P : β → Prop} {E : Er → Prop} {a : Any}
@[elab_as_elim] theorem asI_at {k : Int → Res β} {motive : Dat → Prop} (d : Dat) (e : d = anyD cl a) (h : ((AsI a).bind k).Out P E) (hk : ∀ i, (k i).Out P E → motive (.int i)) : motive d := by
  subst e
  cases a <;> first | exact h.elim | (simp only [anyD]; exact hk _ h)
@[elab_as_elim] theorem asS_at {k : Str → Res β} {motive : Dat → Prop} (d : Dat) (e : d = anyD cl a) (h : ((AsS a).bind k).Out P E) (hk : ∀ i, (k i).Out P E → motive (.str i)) : motive d := by
  subst e
  cases a <;> first | exact h.elim | (simp only [anyD]; exact hk _ h)
@[elab_as_elim] theorem asL_at {k : List Any → Res β} {motive : Dat → Prop} (d : Dat) (e : d = anyD cl a) (h : ((AsL a).bind k).Out P E) (hk : ∀ i, (k i).Out P E → motive (lstD (anyD cl) i)) : motive d := by
  subst e
  cases a <;> first | exact h.elim | (simp only [anyD, anyDL_map]; exact hk _ h)
@[elab_as_elim] theorem asT_at {k : List Any → Res β} {motive : Dat → Prop} (d : Dat) (e : d = anyD cl a) (h : ((AsT a).bind k).Out P E) (hk : ∀ i, (k i).Out P E → motive (vtpD (anyD cl) i)) : motive d := by
  subst e
  cases a <;> first | exact h.elim | (simp only [anyD, anyDL_map]; exact hk _ h)
end
section
variable {X : Cx} {T : Bool} {M : Mem} {P : PK'} {cl : OK → Addr × List Str} {a : Any}
end
/-! ### x += e by an own __iadd__ that refuses -/
section
variable {X : Cx} {T : Bool} {τ : TEnv} {M : Mem} {e : Expr} {rest ss : List Stmt} {R : RK} {pos p : Pos} {x : Str} {k : Nat} {fa C : Addr} {fd : FuncData} {ps : List Str} {S : Spc}
end
/-! ### lists compared, item by item, by any way -/
open PySem.SeqAt PySem.MeetsSeq PySem.MeetsSeq2 PySem.MeetsSeq3 PySem.SeqRoads2
open PySem.AutoSeq1 (wpAny_loadPart')
section
variable {X : Cx} {T : Bool} {M : Mem} {P : PK'} {α : Type} {f : α → Dat} {me : α → α → Res Bool} {Q1 : Bool → Prop} {E1 : Er → Prop}
end
section
variable {X : Cx} {T : Bool} {M : Mem} {P : PK'} {β : Type} {cl : OK → Addr × List Str} {dec : Any → Option β} {fo : β → Dat} {mo : β → β → Res Bool} {Q1 : Bool → Prop} {E1 : Er → Prop}
end
section
variable {X : Cx} {T : Bool} {M : Mem} {P : PK'} {cl : OK → Addr × List Str} {a : Any}
end
/-! ### [f, g, ..][i](e, ..): a table of defs, defaults by keyword too -/
section
variable {X : Cx} {τ : TEnv} {M : Mem} {P : PK'} {E : XKx} {cal e : Expr} {es : List Expr} {pos : Pos}
end
/-- one of some ways -/
def ptab {β : Type} : Int → List (Res β) → Res β
  | _, [] => .bad
  | i, m :: ms => cond (decide (i = 0)) m (ptab (i - 1) ms)
@[elab_as_elim] theorem ptab_c {β : Type} {P : β → Prop} {E : Er → Prop} {m : Res β} {ms : List (Res β)} {motive : Int → Prop} (i : Int) (h : (ptab i (m :: ms)).Out P E) (h0 : m.Out P E → motive 0) (hs : ∀ j, (ptab j ms).Out P E → motive (j + 1)) : motive i := by
  have h : (cond (decide (i = 0)) m (ptab (i - 1) ms)).Out P E := h
  by_cases e : i = 0
  · subst e; exact h0 h
  · rw [decide_eq_false e] at h
    have := hs (i - 1) h
    rw [Int.sub_add_cancel] at this
    exact this
end Kh

set_option Elab.async false
set_option linter.all false
set_option maxRecDepth 100000
set_option maxHeartbeats 1000000
namespace Kh
open PySem PySem.Spec L2
/-! ### keywords alone, of functions and of methods -/
/-- a method that takes keywords -/
structure MK (P : Program) (w : World) (K : PySem.W.Frag) (mg : Str → Option Value) (base : Heap) (A : Around) (C : Addr) (m : Str) (n : Nat) (ks : List Str) (t : List Src) (S : Spc) : Prop where
  ex : ∃ k g fd ps, Cls K C ∧ Meth K C m g ∧ FnD P w K mg base k g fd ps S ∧ Room k A ∧ KwB K fd ps n ks t
section
variable {X : Cx} {T : Bool} {τ : TEnv} {M : Mem} {P : PK'} {E : XKx} {e o : Expr} {es : List Expr} {pos p apos : Pos} {k n : Nat} {f : Addr} {fd : FuncData} {ps ks : List Str} {S : Spc} {x m : Str} {kws : List Keyword} {t : List Src}
/-- f(k = v, ..) -/
theorem ex_callK0 (F : FnD X.prog X.w X.K X.mg X.base k f fd ps S) (hr : Room k X.A) (hm : X.mg x = some (.ref f)) (hk : PySem.W.keepIn X.K (.ref f) = true) (hb : KwB X.K fd ps 0 ks t)
    (h : EKw X kws τ M (fun zs M2 => zs.length = ks.length ∧ S (t.map (Src.dat [] zs)) M2 (UpP P) (UpP E)) E) (hg : Gl X x := by rfl)
    (hall : (backToKw pos (keywordEach kws X.env)).all (·.1.isSome) = true := by rfl) (hks : (backToKw pos (keywordEach kws X.env)).filterMap (·.1) = ks := by rfl)
    (hdb : (x == ("__debug__" : Str)) = false := by decide)
    (hpl : ((backTo pos (starEach [] X.env)).any (·.1) || (backToKw pos (keywordEach kws X.env)).any (·.1.isNone)) = false := by rfl) :
    EX X T (.Call (.Name x p) [] kws pos) τ M P E := by
  refine .mk ?_; intro W tk σ G H hE hH Q hP hX pins s k0 I
  refine wpAny_Call_Name_kw (ld_glob I hg hm ?_ hdb)
  have hA := h.run W tk σ G H hE hH (fun zs H2 => zs.length = ks.length ∧ toSp X.K S (t.map (Src.vv [] zs)) H2 Q (fun c d H3 => W c d σ H3)) (fun zs M2 ws G2 H2 ⟨hl2, hS⟩ s2 h2 dw =>
    ⟨by rw [dw.length]; exact hl2, ap_toSp (ap_all hS) (src_den .nil dw hb.ok) h2 (hP.step s2) (hX.step s2)⟩) hX
  refine PySem.W.callWith_KW0 (h₀ := X.base) I.ok.mod.kin hk hall (thn (hA pos pins s I) fun ws s2 ⟨zs, H2, I2, rz, l2, q2⟩ => ⟨I2.kIn, ?_⟩) hpl
  rw [hks]
  exact run_dN (us := []) (vs := []) F hr hb tk I2 .nil rz rfl l2 q2
/-- o.m(k = v, ..) -/
theorem ex_mvK0 {pl : Sem Bool} (h : EX X T o τ M (fun d M1 => ∃ C ks t S, MK X.prog X.w X.K X.mg X.base X.A C m 1 ks t S ∧ IsI C m M1 d ∧ (backToKw pos (keywordEach kws X.env)).filterMap (·.1) = ks ∧ EKw X kws τ M1 (fun zs M2 => zs.length = ks.length ∧ AP S (t.map (Src.dat [d] zs)) M2 P E) E) E)
    (ht : eval (.Call (.Attribute o m apos) [] kws pos) X.env = (do let ov ← eval o X.env; standAt apos.atName; let (f, first) ← holding [ov] (getMethod ov m pl); callWith pos f first (backTo pos (starEach [] X.env)) (backToKw pos (keywordEach kws X.env))) := by rfl)
    (hall : (backToKw pos (keywordEach kws X.env)).all (·.1.isSome) = true := by rfl)
    (hpl : ((backTo pos (starEach [] X.env)).any (·.1) || (backToKw pos (keywordEach kws X.env)).any (·.1.isNone)) = false := by rfl) :
    EX X T (.Call (.Attribute o m apos) [] kws pos) τ M P E := by
  refine .mk ?_; intro W tk σ G H hE hH Q hP hX pins s k0 I
  have hO := h.run W tk σ G H hE hH (fun x H1 => ∃ a C ks t S dx fs, MK X.prog X.w X.K X.mg X.base X.A C m 1 ks t S ∧ x = .ref a ∧ H1 a = some (.ins C dx fs) ∧ fs.lookup m = none ∧ (backToKw pos (keywordEach kws X.env)).filterMap (·.1) = ks ∧ (∀ x ∈ t, x.Ok X.K) ∧ tWK X kws σ H1 fun zs H2 => zs.length = ks.length ∧ toSp X.K S (t.map (Src.vv [x] zs)) H2 Q (fun c d H3 => W c d σ H3)) (fun d M1 v G1 H1 ⟨C, ks, t, S, mo, hi, hks, ha⟩ s1 h1 dv => by
    obtain ⟨a, dx, fs, e1, e2, e3⟩ := hi.get h1 dv
    obtain ⟨k, g, fd, ps, c, hm, F, hr, hb⟩ := id mo.ex
    exact ⟨a, C, ks, t, S, dx, fs, mo, e1, e2, e3, hks, hb.ok, ha.run W tk σ G1 H1 (hE.up s1.gg) h1 _ (fun zs M2 ws G2 H2 ⟨hl, hp⟩ s2 h2 dw => ⟨by rw [dw.length]; exact hl, ap_toSp hp (src_den (.cons (dv.up s2.gg) .nil) dw hb.ok) h2 (hP.step (s1.trans s2)) (hX.step (s1.trans s2))⟩) (hX.step s1)⟩) hX
  refine PySem.W.methodCall_KW (pl := pl) (thnT k0 (hO pins s k0 I) fun u s1 k1 ⟨x, H1, I1, rx, a, C, ks, t, S, dx, fs, mo, ex, ea, l, hks, ho, q⟩ => ?_) ht
  subst ex
  obtain rfl : u = Value.ref a := rx
  obtain ⟨k, g, fd, ps, c, hm, F, hr, hb⟩ := mo.ex
  refine getmeth_ok I1 ea c hm l ?_
  refine PySem.W.callWith_KW0 (h₀ := X.base) (first := [.ref a]) I1.ok.mod.kin hm.kp hall (thn (q pos pins s1 I1) fun ws s2 ⟨zs, H2, I2, rz, l2, q2⟩ => ⟨I2.kIn, ?_⟩) hpl
  rw [hks]
  exact run_dN (us := [.ref a]) (vs := [.ref a]) F hr hb tk I2 (.cons rfl .nil) rz rfl l2 q2
theorem mkD {d : Dat} {S : Spc} {n : Nat} {ks ks' : List Str} {t : List Src} (h : ∃ C, MK X.prog X.w X.K X.mg X.base X.A C m n ks t S ∧ ∀ M, IsI C m M d) (e : ks' = ks) (ha : EKw X kws τ M (fun zs M2 => zs.length = ks.length ∧ S (t.map (Src.dat [d] zs)) M2 (UpP P) (UpP E)) E) :
    ∃ C ks t S, MK X.prog X.w X.K X.mg X.base X.A C m n ks t S ∧ IsI C m M d ∧ ks' = ks ∧ EKw X kws τ M (fun zs M2 => zs.length = ks.length ∧ AP S (t.map (Src.dat [d] zs)) M2 P E) E :=
  let ⟨C, h1, h2⟩ := h
  ⟨C, ks, t, S, h1, h2 M, e, .mk fun W tk σ G H hE hH Q hP hX => ha.run W tk σ G H hE hH Q (fun ds M2 vs G2 H2 hs => hP ds M2 vs G2 H2 ⟨hs.1, ap_all hs.2⟩) hX⟩
end
theorem den_obj_str {K : PySem.W.Frag} {G : Hp} {C C' a : Addr} {f f' : Str} {n m : Str} (d1 : Den K G (.obj C [f] [.str n]) (.ref a)) (d2 : Den K G (.obj C' [f'] [.str m]) (.ref a)) : n = m := by
  obtain ⟨a1, x1, v1, e1, g1, _, l1⟩ := d1.obj_inv
  obtain ⟨a2, x2, v2, e2, g2, _, l2⟩ := d2.obj_inv
  cases e1; cases e2
  obtain ⟨v1, r1, rfl, h1, l1⟩ := l1.cons_inv
  obtain ⟨v2, r2, rfl, h2, l2⟩ := l2.cons_inv
  rw [h1.str_inv] at g1; rw [h2.str_inv] at g2
  rw [g1] at g2
  simp at g2
  exact g2.2.2.2
/-! ### options compared, where what they hold has an own == -/
def peqO {α : Type} (me : α → α → Res Bool) : Option α → Option α → Res Bool
  | none, none => .ok true
  | some a, some b => me a b
  | _, _ => .bad
section
variable {X : Cx} {T : Bool} {M : Mem} {P : PK'} {α : Type} {f : α → Dat} {me : α → α → Res Bool} {Q1 : Bool → Prop} {E1 : Er → Prop}
theorem o_neNN (hu : X.A.units + 64 < cLine) (h : P (.bl false) M) : OP X T (compareOp .NotEq) .non .non M P :=
  r_neD (E1 := fun _ => False) pyN () () hu (Q := fun b => b = true) (by rw [show peq pyN.ok () () = .ok true from guard_ok ⟨rfl, rfl⟩]; rfl) fun b e => by rw [e]; exact h
theorem r_neOp {a b : Option α} (h : (peqO me a b).ne.Out Q1 E1) (hs : ∀ x y, (me x y).ne.Out Q1 E1 → (∀ b, Q1 b → P (.bl (!b)) M) → OP X T (compareOp .NotEq) (f x) (f y) M P) (hu : X.A.units + 64 < cLine) (hk : ∀ b, Q1 b → P (.bl (!b)) M) : OP X T (compareOp .NotEq) (optD f a) (optD f b) M P := by
  cases a with
  | none =>
    cases b with
    | none => exact o_neNN hu (hk true h)
    | some y => exact h.elim
  | some x =>
    cases b with
    | none => exact h.elim
    | some y => exact hs x y h hk
end
end Kh

set_option Elab.async false
set_option linter.all false
set_option maxRecDepth 100000
set_option maxHeartbeats 2000000
namespace Kh
open PySem PySem.Spec L2
open PySem.W (Frag ksFn)
def top (i : Nat) : Stmt := PySem.Challenge.pw_keptholes_k40_arguments_by_name.main.body.getD i (.Pass ⟨0, 0, 0, 0⟩)
abbrev s_is_whole : Stmt := top 8
abbrev N_is_whole : List Str := ["value"]
abbrev P_is_whole : List Str := ["value"]
theorem sc_is_whole : FnScope N_is_whole P_is_whole (defScope s_is_whole) := ⟨rfl, rfl, rfl, by decide +kernel, rfl, by decide +kernel, by decide +kernel⟩
abbrev s_check_least : Stmt := top 9
abbrev N_check_least : List Str := ["value", "least"]
abbrev P_check_least : List Str := ["value", "least"]
theorem sc_check_least : FnScope N_check_least P_check_least (defScope s_check_least) := ⟨rfl, rfl, rfl, by decide +kernel, rfl, by decide +kernel, by decide +kernel⟩
abbrev s_check_within : Stmt := top 10
abbrev N_check_within : List Str := ["value", "first", "last"]
abbrev P_check_within : List Str := ["value", "first", "last"]
theorem sc_check_within : FnScope N_check_within P_check_within (defScope s_check_within) := ⟨rfl, rfl, rfl, by decide +kernel, rfl, by decide +kernel, by decide +kernel⟩
abbrev s_divisor_of : Stmt := top 11
abbrev N_divisor_of : List Str := ["one", "other"]
abbrev P_divisor_of : List Str := ["one", "other"]
theorem sc_divisor_of : FnScope N_divisor_of P_divisor_of (defScope s_divisor_of) := ⟨rfl, rfl, rfl, by decide +kernel, rfl, by decide +kernel, by decide +kernel⟩
abbrev s_multiple_of : Stmt := top 12
abbrev N_multiple_of : List Str := ["numbers", "found", "number"]
abbrev P_multiple_of : List Str := ["numbers"]
theorem sc_multiple_of : FnScope N_multiple_of P_multiple_of (defScope s_multiple_of) := ⟨rfl, rfl, rfl, by decide +kernel, rfl, by decide +kernel, by decide +kernel⟩
abbrev s_are_sizes : Stmt := top 14
abbrev N_are_sizes : List Str := ["value", "size"]
abbrev P_are_sizes : List Str := ["value"]
theorem sc_are_sizes : FnScope N_are_sizes P_are_sizes (defScope s_are_sizes) := ⟨rfl, rfl, rfl, by decide +kernel, rfl, by decide +kernel, by decide +kernel⟩
abbrev s_widened : Stmt := top 15
abbrev N_widened : List Str := ["stretch", "size", "begin", "end"]
abbrev P_widened : List Str := ["stretch", "size"]
theorem sc_widened : FnScope N_widened P_widened (defScope s_widened) := ⟨rfl, rfl, rfl, by decide +kernel, rfl, by decide +kernel, by decide +kernel⟩
abbrev s_spread : Stmt := top 16
abbrev N_spread : List Str := ["sizes", "cell", "found", "size"]
abbrev P_spread : List Str := ["sizes", "cell"]
theorem sc_spread : FnScope N_spread P_spread (defScope s_spread) := ⟨rfl, rfl, rfl, by decide +kernel, rfl, by decide +kernel, by decide +kernel⟩
abbrev s_rounds_spread : Stmt := top 17
abbrev N_rounds_spread : List Str := ["one", "other", "rounds", "cell", "found", "great", "many", "begin", "end"]
abbrev P_rounds_spread : List Str := ["one", "other", "rounds", "cell"]
theorem sc_rounds_spread : FnScope N_rounds_spread P_rounds_spread (defScope s_rounds_spread) := ⟨rfl, rfl, rfl, by decide +kernel, rfl, by decide +kernel, by decide +kernel⟩
abbrev s_settles : Stmt := top 18
abbrev N_settles : List Str := ["one", "other"]
abbrev P_settles : List Str := ["one", "other"]
theorem sc_settles : FnScope N_settles P_settles (defScope s_settles) := ⟨rfl, rfl, rfl, by decide +kernel, rfl, by decide +kernel, by decide +kernel⟩
abbrev s_are_cells : Stmt := top 21
abbrev N_are_cells : List Str := ["value", "cell"]
abbrev P_are_cells : List Str := ["value"]
theorem sc_are_cells : FnScope N_are_cells P_are_cells (defScope s_are_cells) := ⟨rfl, rfl, rfl, by decide +kernel, rfl, by decide +kernel, by decide +kernel⟩
abbrev s_punched_cell : Stmt := top 22
abbrev N_punched_cell : List Str := ["cell", "begin", "end", "size", "length", "first"]
abbrev P_punched_cell : List Str := ["cell", "begin", "end", "size", "length"]
theorem sc_punched_cell : FnScope N_punched_cell P_punched_cell (defScope s_punched_cell) := ⟨rfl, rfl, rfl, by decide +kernel, rfl, by decide +kernel, by decide +kernel⟩
abbrev s_check_file : Stmt := top 24
abbrev N_check_file : List Str := ["value"]
abbrev P_check_file : List Str := ["value"]
theorem sc_check_file : FnScope N_check_file P_check_file (defScope s_check_file) := ⟨rfl, rfl, rfl, by decide +kernel, rfl, by decide +kernel, by decide +kernel⟩
abbrev s_blocks_of : Stmt := top 26
abbrev N_blocks_of : List Str := ["cells", "size", "at"]
abbrev P_blocks_of : List Str := ["cells", "size"]
theorem sc_blocks_of : FnScope N_blocks_of P_blocks_of (defScope s_blocks_of) := ⟨rfl, rfl, rfl, by decide +kernel, rfl, by decide +kernel, by decide +kernel⟩
abbrev s_filled : Stmt := top 27
abbrev N_filled : List Str := ["cells"]
abbrev P_filled : List Str := ["cells"]
theorem sc_filled : FnScope N_filled P_filled (defScope s_filled) := ⟨rfl, rfl, rfl, by decide +kernel, rfl, by decide +kernel, by decide +kernel⟩
abbrev s_has_sign : Stmt := top 28
abbrev N_has_sign : List Str := ["cells", "cell"]
abbrev P_has_sign : List Str := ["cells"]
theorem sc_has_sign : FnScope N_has_sign P_has_sign (defScope s_has_sign) := ⟨rfl, rfl, rfl, by decide +kernel, rfl, by decide +kernel, by decide +kernel⟩
abbrev s_are_steps : Stmt := top 34
abbrev N_are_steps : List Str := ["value", "step"]
abbrev P_are_steps : List Str := ["value"]
theorem sc_are_steps : FnScope N_are_steps P_are_steps (defScope s_are_steps) := ⟨rfl, rfl, rfl, by decide +kernel, rfl, by decide +kernel, by decide +kernel⟩
abbrev s_check_script : Stmt := top 36
abbrev N_check_script : List Str := ["value"]
abbrev P_check_script : List Str := ["value"]
theorem sc_check_script : FnScope N_check_script P_check_script (defScope s_check_script) := ⟨rfl, rfl, rfl, by decide +kernel, rfl, by decide +kernel, by decide +kernel⟩
abbrev s_holds_in : Stmt := top 38
abbrev N_holds_in : List Str := ["one", "other"]
abbrev P_holds_in : List Str := ["one", "other"]
theorem sc_holds_in : FnScope N_holds_in P_holds_in (defScope s_holds_in) := ⟨rfl, rfl, rfl, by decide +kernel, rfl, by decide +kernel, by decide +kernel⟩
abbrev s_is_held : Stmt := top 39
abbrev N_is_held : List Str := ["rows", "other", "row"]
abbrev P_is_held : List Str := ["rows", "other"]
theorem sc_is_held : FnScope N_is_held P_is_held (defScope s_is_held) := ⟨rfl, rfl, rfl, by decide +kernel, rfl, by decide +kernel, by decide +kernel⟩
abbrev s_least_of : Stmt := top 40
abbrev N_least_of : List Str := ["rows", "found", "row"]
abbrev P_least_of : List Str := ["rows"]
theorem sc_least_of : FnScope N_least_of P_least_of (defScope s_least_of) := ⟨rfl, rfl, rfl, by decide +kernel, rfl, by decide +kernel, by decide +kernel⟩
abbrev s_dug : Stmt := top 41
abbrev N_dug : List Str := ["rows", "bits", "found", "written", "signs", "row", "bit"]
abbrev P_dug : List Str := ["rows", "bits"]
theorem sc_dug : FnScope N_dug P_dug (defScope s_dug) := ⟨rfl, rfl, rfl, by decide +kernel, rfl, by decide +kernel, by decide +kernel⟩
abbrev s_behind_step : Stmt := top 42
abbrev N_behind_step : List Str := ["step", "table", "found", "begin", "block", "bits", "union", "rows", "at", "row", "bit"]
abbrev P_behind_step : List Str := ["step", "table"]
theorem sc_behind_step : FnScope N_behind_step P_behind_step (defScope s_behind_step) := ⟨rfl, rfl, rfl, by decide +kernel, rfl, by decide +kernel, by decide +kernel⟩
abbrev s_reason_table : Stmt := top 43
abbrev N_reason_table : List Str := ["script", "table", "step", "at"]
abbrev P_reason_table : List Str := ["script"]
theorem sc_reason_table : FnScope N_reason_table P_reason_table (defScope s_reason_table) := ⟨rfl, rfl, rfl, by decide +kernel, rfl, by decide +kernel, by decide +kernel⟩
abbrev s_cells_of : Stmt := top 44
abbrev N_cells_of : List Str := ["bits", "first", "period", "at"]
abbrev P_cells_of : List Str := ["bits", "first", "period"]
theorem sc_cells_of : FnScope N_cells_of P_cells_of (defScope s_cells_of) := ⟨rfl, rfl, rfl, by decide +kernel, rfl, by decide +kernel, by decide +kernel⟩
abbrev s_reasons : Stmt := top 45
abbrev N_reasons : List Str := ["script", "cell", "period", "first", "rows", "pairs", "written", "signs"]
abbrev P_reasons : List Str := ["script", "cell"]
theorem sc_reasons : FnScope N_reasons P_reasons (defScope s_reasons) := ⟨rfl, rfl, rfl, by decide +kernel, rfl, by decide +kernel, by decide +kernel⟩
abbrev s_moved_table : Stmt := top 47
abbrev N_moved_table : List Str := ["script", "length", "table", "found", "first", "rows", "written", "signs"]
abbrev P_moved_table : List Str := ["script", "length"]
theorem sc_moved_table : FnScope N_moved_table P_moved_table (defScope s_moved_table) := ⟨rfl, rfl, rfl, by decide +kernel, rfl, by decide +kernel, by decide +kernel⟩
abbrev s_put_down : Stmt := top 48
abbrev N_put_down : List Str := ["row", "cell", "length", "written", "signs", "kinds", "last", "at", "kind"]
abbrev P_put_down : List Str := ["row", "cell", "length"]
theorem sc_put_down : FnScope N_put_down P_put_down (defScope s_put_down) := ⟨rfl, rfl, rfl, by decide +kernel, rfl, by decide +kernel, by decide +kernel⟩
abbrev s_more_of : Stmt := top 49
abbrev N_more_of : List Str := ["one", "other", "length", "others", "cell", "rows", "row"]
abbrev P_more_of : List Str := ["one", "other"]
theorem sc_more_of : FnScope N_more_of P_more_of (defScope s_more_of) := ⟨rfl, rfl, rfl, by decide +kernel, rfl, by decide +kernel, by decide +kernel⟩
abbrev s_check_two : Stmt := top 50
abbrev N_check_two : List Str := ["one", "other"]
abbrev P_check_two : List Str := ["one", "other"]
theorem sc_check_two : FnScope N_check_two P_check_two (defScope s_check_two) := ⟨rfl, rfl, rfl, by decide +kernel, rfl, by decide +kernel, by decide +kernel⟩
abbrev s_more_file : Stmt := top 51
abbrev N_more_file : List Str := ["one", "other"]
abbrev P_more_file : List Str := ["one", "other"]
theorem sc_more_file : FnScope N_more_file P_more_file (defScope s_more_file) := ⟨rfl, rfl, rfl, by decide +kernel, rfl, by decide +kernel, by decide +kernel⟩
abbrev s_never_more : Stmt := top 52
abbrev N_never_more : List Str := ["one", "other"]
abbrev P_never_more : List Str := ["one", "other"]
theorem sc_never_more : FnScope N_never_more P_never_more (defScope s_never_more) := ⟨rfl, rfl, rfl, by decide +kernel, rfl, by decide +kernel, by decide +kernel⟩
abbrev s_parting_of : Stmt := top 53
abbrev N_parting_of : List Str := ["one", "other", "found"]
abbrev P_parting_of : List Str := ["one", "other"]
theorem sc_parting_of : FnScope N_parting_of P_parting_of (defScope s_parting_of) := ⟨rfl, rfl, rfl, by decide +kernel, rfl, by decide +kernel, by decide +kernel⟩
abbrev s_parting : Stmt := top 54
abbrev N_parting : List Str := ["one", "other"]
abbrev P_parting : List Str := ["one", "other"]
theorem sc_parting : FnScope N_parting P_parting (defScope s_parting) := ⟨rfl, rfl, rfl, by decide +kernel, rfl, by decide +kernel, by decide +kernel⟩
abbrev s_alike : Stmt := top 55
abbrev N_alike : List Str := ["one", "other"]
abbrev P_alike : List Str := ["one", "other"]
theorem sc_alike : FnScope N_alike P_alike (defScope s_alike) := ⟨rfl, rfl, rfl, by decide +kernel, rfl, by decide +kernel, by decide +kernel⟩
abbrev s_exchangeable : Stmt := top 56
abbrev N_exchangeable : List Str := ["one", "other"]
abbrev P_exchangeable : List Str := ["one", "other"]
theorem sc_exchangeable : FnScope N_exchangeable P_exchangeable (defScope s_exchangeable) := ⟨rfl, rfl, rfl, by decide +kernel, rfl, by decide +kernel, by decide +kernel⟩
abbrev s_law_files_right : Stmt := top 58
abbrev N_law_files_right : List Str := ["w", "u", "v", "z", "x", "y"]
abbrev P_law_files_right : List Str := ["w", "u", "v"]
theorem sc_law_files_right : FnScope N_law_files_right P_law_files_right (defScope s_law_files_right) := ⟨rfl, rfl, rfl, by decide +kernel, rfl, by decide +kernel, by decide +kernel⟩
abbrev s_law_rest_right : Stmt := top 59
abbrev N_law_rest_right : List Str := ["x", "y", "u", "v", "z"]
abbrev P_law_rest_right : List Str := ["x", "y", "u", "v"]
theorem sc_law_rest_right : FnScope N_law_rest_right P_law_rest_right (defScope s_law_rest_right) := ⟨rfl, rfl, rfl, by decide +kernel, rfl, by decide +kernel, by decide +kernel⟩
abbrev s_law : Stmt := top 60
abbrev N_law : List Str := ["script", "t", "s", "u", "v", "w", "x", "y"]
abbrev P_law : List Str := ["script"]
theorem sc_law : FnScope N_law P_law (defScope s_law) := ⟨rfl, rfl, rfl, by decide +kernel, rfl, by decide +kernel, by decide +kernel⟩
abbrev s_File_init : Stmt := inClass (top 23) 0
abbrev N_File_init : List Str := ["self", "cells"]
abbrev P_File_init : List Str := ["self", "cells"]
theorem sc_File_init : FnScope N_File_init P_File_init (defScope s_File_init) := ⟨rfl, rfl, rfl, by decide +kernel, rfl, by decide +kernel, by decide +kernel⟩
abbrev s_File_cells : Stmt := inClass (top 23) 1
abbrev N_File_cells : List Str := ["self"]
abbrev P_File_cells : List Str := ["self"]
theorem sc_File_cells : FnScope N_File_cells P_File_cells (defScope s_File_cells) := ⟨rfl, rfl, rfl, by decide +kernel, rfl, by decide +kernel, by decide +kernel⟩
abbrev s_File_eq : Stmt := inClass (top 23) 7
abbrev N_File_eq : List Str := ["self", "other"]
abbrev P_File_eq : List Str := ["self", "other"]
theorem sc_File_eq : FnScope N_File_eq P_File_eq (defScope s_File_eq) := ⟨rfl, rfl, rfl, by decide +kernel, rfl, by decide +kernel, by decide +kernel⟩
abbrev s_File_cut : Stmt := inClass (top 23) 9
abbrev N_File_cut : List Str := ["self", "length"]
abbrev P_File_cut : List Str := ["self", "length"]
theorem sc_File_cut : FnScope N_File_cut P_File_cut (defScope s_File_cut) := ⟨rfl, rfl, rfl, by decide +kernel, rfl, by decide +kernel, by decide +kernel⟩
abbrev s_File_grown : Stmt := inClass (top 23) 10
abbrev N_File_grown : List Str := ["self", "length"]
abbrev P_File_grown : List Str := ["self", "length"]
theorem sc_File_grown : FnScope N_File_grown P_File_grown (defScope s_File_grown) := ⟨rfl, rfl, rfl, by decide +kernel, rfl, by decide +kernel, by decide +kernel⟩
abbrev s_File_punched : Stmt := inClass (top 23) 11
abbrev N_File_punched : List Str := ["self", "begin", "end", "size", "middle", "cell"]
abbrev P_File_punched : List Str := ["self", "begin", "end", "size"]
theorem sc_File_punched : FnScope N_File_punched P_File_punched (defScope s_File_punched) := ⟨rfl, rfl, rfl, by decide +kernel, rfl, by decide +kernel, by decide +kernel⟩
abbrev s_Step_play : Stmt := inClass (top 29) 0
abbrev N_Step_play : List Str := ["self", "file"]
abbrev P_Step_play : List Str := ["self", "file"]
theorem sc_Step_play : FnScope N_Step_play P_Step_play (defScope s_Step_play) := ⟨rfl, rfl, rfl, by decide +kernel, rfl, by decide +kernel, by decide +kernel⟩
abbrev s_Full_changed : Stmt := inClass (top 30) 0
abbrev N_Full_changed : List Str := ["self", "cells"]
abbrev P_Full_changed : List Str := ["self", "cells"]
theorem sc_Full_changed : FnScope N_Full_changed P_Full_changed (defScope s_Full_changed) := ⟨rfl, rfl, rfl, by decide +kernel, rfl, by decide +kernel, by decide +kernel⟩
abbrev s_Full_eq : Stmt := inClass (top 30) 1
abbrev N_Full_eq : List Str := ["self", "other"]
abbrev P_Full_eq : List Str := ["self", "other"]
theorem sc_Full_eq : FnScope N_Full_eq P_Full_eq (defScope s_Full_eq) := ⟨rfl, rfl, rfl, by decide +kernel, rfl, by decide +kernel, by decide +kernel⟩
abbrev s_Keep_init : Stmt := inClass (top 31) 0
abbrev N_Keep_init : List Str := ["self", "size"]
abbrev P_Keep_init : List Str := ["self", "size"]
theorem sc_Keep_init : FnScope N_Keep_init P_Keep_init (defScope s_Keep_init) := ⟨rfl, rfl, rfl, by decide +kernel, rfl, by decide +kernel, by decide +kernel⟩
abbrev s_Keep_size : Stmt := inClass (top 31) 1
abbrev N_Keep_size : List Str := ["self"]
abbrev P_Keep_size : List Str := ["self"]
theorem sc_Keep_size : FnScope N_Keep_size P_Keep_size (defScope s_Keep_size) := ⟨rfl, rfl, rfl, by decide +kernel, rfl, by decide +kernel, by decide +kernel⟩
abbrev s_Keep_changed : Stmt := inClass (top 31) 2
abbrev N_Keep_changed : List Str := ["self", "cells", "blocks", "block"]
abbrev P_Keep_changed : List Str := ["self", "cells"]
theorem sc_Keep_changed : FnScope N_Keep_changed P_Keep_changed (defScope s_Keep_changed) := ⟨rfl, rfl, rfl, by decide +kernel, rfl, by decide +kernel, by decide +kernel⟩
abbrev s_Keep_eq : Stmt := inClass (top 31) 3
abbrev N_Keep_eq : List Str := ["self", "other"]
abbrev P_Keep_eq : List Str := ["self", "other"]
theorem sc_Keep_eq : FnScope N_Keep_eq P_Keep_eq (defScope s_Keep_eq) := ⟨rfl, rfl, rfl, by decide +kernel, rfl, by decide +kernel, by decide +kernel⟩
abbrev s_Lean_init : Stmt := inClass (top 32) 0
abbrev N_Lean_init : List Str := ["self", "size"]
abbrev P_Lean_init : List Str := ["self", "size"]
theorem sc_Lean_init : FnScope N_Lean_init P_Lean_init (defScope s_Lean_init) := ⟨rfl, rfl, rfl, by decide +kernel, rfl, by decide +kernel, by decide +kernel⟩
abbrev s_Lean_size : Stmt := inClass (top 32) 1
abbrev N_Lean_size : List Str := ["self"]
abbrev P_Lean_size : List Str := ["self"]
theorem sc_Lean_size : FnScope N_Lean_size P_Lean_size (defScope s_Lean_size) := ⟨rfl, rfl, rfl, by decide +kernel, rfl, by decide +kernel, by decide +kernel⟩
abbrev s_Lean_changed : Stmt := inClass (top 32) 2
abbrev N_Lean_changed : List Str := ["self", "cells", "blocks", "block"]
abbrev P_Lean_changed : List Str := ["self", "cells"]
theorem sc_Lean_changed : FnScope N_Lean_changed P_Lean_changed (defScope s_Lean_changed) := ⟨rfl, rfl, rfl, by decide +kernel, rfl, by decide +kernel, by decide +kernel⟩
abbrev s_Lean_eq : Stmt := inClass (top 32) 3
abbrev N_Lean_eq : List Str := ["self", "other"]
abbrev P_Lean_eq : List Str := ["self", "other"]
theorem sc_Lean_eq : FnScope N_Lean_eq P_Lean_eq (defScope s_Lean_eq) := ⟨rfl, rfl, rfl, by decide +kernel, rfl, by decide +kernel, by decide +kernel⟩
abbrev s_Dig_init : Stmt := inClass (top 33) 0
abbrev N_Dig_init : List Str := ["self", "size"]
abbrev P_Dig_init : List Str := ["self", "size"]
theorem sc_Dig_init : FnScope N_Dig_init P_Dig_init (defScope s_Dig_init) := ⟨rfl, rfl, rfl, by decide +kernel, rfl, by decide +kernel, by decide +kernel⟩
abbrev s_Dig_size : Stmt := inClass (top 33) 1
abbrev N_Dig_size : List Str := ["self"]
abbrev P_Dig_size : List Str := ["self"]
theorem sc_Dig_size : FnScope N_Dig_size P_Dig_size (defScope s_Dig_size) := ⟨rfl, rfl, rfl, by decide +kernel, rfl, by decide +kernel, by decide +kernel⟩
abbrev s_Dig_changed : Stmt := inClass (top 33) 2
abbrev N_Dig_changed : List Str := ["self", "cells", "blocks", "block"]
abbrev P_Dig_changed : List Str := ["self", "cells"]
theorem sc_Dig_changed : FnScope N_Dig_changed P_Dig_changed (defScope s_Dig_changed) := ⟨rfl, rfl, rfl, by decide +kernel, rfl, by decide +kernel, by decide +kernel⟩
abbrev s_Dig_eq : Stmt := inClass (top 33) 3
abbrev N_Dig_eq : List Str := ["self", "other"]
abbrev P_Dig_eq : List Str := ["self", "other"]
theorem sc_Dig_eq : FnScope N_Dig_eq P_Dig_eq (defScope s_Dig_eq) := ⟨rfl, rfl, rfl, by decide +kernel, rfl, by decide +kernel, by decide +kernel⟩
abbrev s_Script_init : Stmt := inClass (top 35) 0
abbrev N_Script_init : List Str := ["self", "steps", "rows"]
abbrev P_Script_init : List Str := ["self", "steps"]
theorem sc_Script_init : FnScope N_Script_init P_Script_init (defScope s_Script_init) := ⟨rfl, rfl, rfl, by decide +kernel, rfl, by decide +kernel, by decide +kernel⟩
abbrev s_Script_period : Stmt := inClass (top 35) 1
abbrev N_Script_period : List Str := ["self", "step"]
abbrev P_Script_period : List Str := ["self"]
theorem sc_Script_period : FnScope N_Script_period P_Script_period (defScope s_Script_period) := ⟨rfl, rfl, rfl, by decide +kernel, rfl, by decide +kernel, by decide +kernel⟩
abbrev s_Script_iter : Stmt := inClass (top 35) 3
abbrev N_Script_iter : List Str := ["self"]
abbrev P_Script_iter : List Str := ["self"]
theorem sc_Script_iter : FnScope N_Script_iter P_Script_iter (defScope s_Script_iter) := ⟨rfl, rfl, rfl, by decide +kernel, rfl, by decide +kernel, by decide +kernel⟩
abbrev s_Script_eq : Stmt := inClass (top 35) 5
abbrev N_Script_eq : List Str := ["self", "other"]
abbrev P_Script_eq : List Str := ["self", "other"]
theorem sc_Script_eq : FnScope N_Script_eq P_Script_eq (defScope s_Script_eq) := ⟨rfl, rfl, rfl, by decide +kernel, rfl, by decide +kernel, by decide +kernel⟩
abbrev s_Script_add : Stmt := inClass (top 35) 6
abbrev N_Script_add : List Str := ["self", "other"]
abbrev P_Script_add : List Str := ["self", "other"]
theorem sc_Script_add : FnScope N_Script_add P_Script_add (defScope s_Script_add) := ⟨rfl, rfl, rfl, by decide +kernel, rfl, by decide +kernel, by decide +kernel⟩
abbrev s_Script_without : Stmt := inClass (top 35) 8
abbrev N_Script_without : List Str := ["self", "k"]
abbrev P_Script_without : List Str := ["self", "k"]
theorem sc_Script_without : FnScope N_Script_without P_Script_without (defScope s_Script_without) := ⟨rfl, rfl, rfl, by decide +kernel, rfl, by decide +kernel, by decide +kernel⟩
abbrev s_Script_traces : Stmt := inClass (top 35) 9
abbrev N_Script_traces : List Str := ["self", "file", "found", "step"]
abbrev P_Script_traces : List Str := ["self", "file"]
theorem sc_Script_traces : FnScope N_Script_traces P_Script_traces (defScope s_Script_traces) := ⟨rfl, rfl, rfl, by decide +kernel, rfl, by decide +kernel, by decide +kernel⟩
abbrev s_Script_play : Stmt := inClass (top 35) 10
abbrev N_Script_play : List Str := ["self", "file"]
abbrev P_Script_play : List Str := ["self", "file"]
theorem sc_Script_play : FnScope N_Script_play P_Script_play (defScope s_Script_play) := ⟨rfl, rfl, rfl, by decide +kernel, rfl, by decide +kernel, by decide +kernel⟩
abbrev si_InvalidFile : Stmt := inClass (top 3) 0
abbrev si_InvalidNumber : Stmt := inClass (top 4) 0
abbrev si_InvalidList : Stmt := inClass (top 6) 0
structure Prg (K : Frag) (mg : Str → Option Value) where
  n_bool : mg "bool" = none
  n_enumerate : mg "enumerate" = none
  n_int : mg "int" = none
  n_isinstance : mg "isinstance" = none
  n_iter : mg "iter" = none
  n_len : mg "len" = none
  n_list : mg "list" = none
  n_max : mg "max" = none
  n_min : mg "min" = none
  n_range : mg "range" = none
  n_set : mg "set" = none
  n_sorted : mg "sorted" = none
  n_str : mg "str" = none
  n_sum : mg "sum" = none
  n_super : mg "super" = none
  n_tuple : mg "tuple" = none
  tg_SIGNS : Tok
  g_SIGNS : mg "SIGNS" = some (.str "abcdefghijklmnopqrstuvwxyz" tg_SIGNS)
  C_File : Addr
  mc_File : mg "File" = some (.ref C_File)
  C_Step : Addr
  mc_Step : mg "Step" = some (.ref C_Step)
  C_Full : Addr
  mc_Full : mg "Full" = some (.ref C_Full)
  C_Keep : Addr
  mc_Keep : mg "Keep" = some (.ref C_Keep)
  C_Lean : Addr
  mc_Lean : mg "Lean" = some (.ref C_Lean)
  C_Dig : Addr
  mc_Dig : mg "Dig" = some (.ref C_Dig)
  C_Script : Addr
  mc_Script : mg "Script" = some (.ref C_Script)
  f_is_whole : Addr
  d_is_whole : FuncData
  F_is_whole : Fun K "is_whole" "is_whole" s_is_whole f_is_whole d_is_whole
  b_is_whole : Binds K d_is_whole P_is_whole []
  m_is_whole : mg "is_whole" = some (.ref f_is_whole)
  f_check_least : Addr
  d_check_least : FuncData
  F_check_least : Fun K "check_least" "check_least" s_check_least f_check_least d_check_least
  b_check_least : Binds K d_check_least P_check_least []
  m_check_least : mg "check_least" = some (.ref f_check_least)
  f_check_within : Addr
  d_check_within : FuncData
  F_check_within : Fun K "check_within" "check_within" s_check_within f_check_within d_check_within
  b_check_within : Binds K d_check_within P_check_within []
  m_check_within : mg "check_within" = some (.ref f_check_within)
  f_divisor_of : Addr
  d_divisor_of : FuncData
  F_divisor_of : Fun K "divisor_of" "divisor_of" s_divisor_of f_divisor_of d_divisor_of
  b_divisor_of : Binds K d_divisor_of P_divisor_of []
  m_divisor_of : mg "divisor_of" = some (.ref f_divisor_of)
  f_multiple_of : Addr
  d_multiple_of : FuncData
  F_multiple_of : Fun K "multiple_of" "multiple_of" s_multiple_of f_multiple_of d_multiple_of
  b_multiple_of : Binds K d_multiple_of P_multiple_of []
  m_multiple_of : mg "multiple_of" = some (.ref f_multiple_of)
  f_are_sizes : Addr
  d_are_sizes : FuncData
  F_are_sizes : Fun K "are_sizes" "are_sizes" s_are_sizes f_are_sizes d_are_sizes
  b_are_sizes : Binds K d_are_sizes P_are_sizes []
  m_are_sizes : mg "are_sizes" = some (.ref f_are_sizes)
  f_widened : Addr
  d_widened : FuncData
  F_widened : Fun K "widened" "widened" s_widened f_widened d_widened
  b_widened : Binds K d_widened P_widened []
  m_widened : mg "widened" = some (.ref f_widened)
  f_spread : Addr
  d_spread : FuncData
  F_spread : Fun K "spread" "spread" s_spread f_spread d_spread
  b_spread : Binds K d_spread P_spread []
  kb_spread_0_cell_sizes : KwB K d_spread P_spread 0 ["cell", "sizes"] [.k 1, .k 0]
  m_spread : mg "spread" = some (.ref f_spread)
  f_rounds_spread : Addr
  d_rounds_spread : FuncData
  F_rounds_spread : Fun K "rounds_spread" "rounds_spread" s_rounds_spread f_rounds_spread d_rounds_spread
  b_rounds_spread : Binds K d_rounds_spread P_rounds_spread []
  kb_rounds_spread_0_cell_rounds_other_one : KwB K d_rounds_spread P_rounds_spread 0 ["cell", "rounds", "other", "one"] [.k 3, .k 2, .k 1, .k 0]
  m_rounds_spread : mg "rounds_spread" = some (.ref f_rounds_spread)
  f_settles : Addr
  d_settles : FuncData
  F_settles : Fun K "settles" "settles" s_settles f_settles d_settles
  b_settles : Binds K d_settles P_settles []
  kb_settles_0_other_one : KwB K d_settles P_settles 0 ["other", "one"] [.k 1, .k 0]
  m_settles : mg "settles" = some (.ref f_settles)
  f_are_cells : Addr
  d_are_cells : FuncData
  F_are_cells : Fun K "are_cells" "are_cells" s_are_cells f_are_cells d_are_cells
  b_are_cells : Binds K d_are_cells P_are_cells []
  m_are_cells : mg "are_cells" = some (.ref f_are_cells)
  f_punched_cell : Addr
  d_punched_cell : FuncData
  F_punched_cell : Fun K "punched_cell" "punched_cell" s_punched_cell f_punched_cell d_punched_cell
  b_punched_cell : Binds K d_punched_cell P_punched_cell []
  m_punched_cell : mg "punched_cell" = some (.ref f_punched_cell)
  f_check_file : Addr
  d_check_file : FuncData
  F_check_file : Fun K "check_file" "check_file" s_check_file f_check_file d_check_file
  b_check_file : Binds K d_check_file P_check_file []
  m_check_file : mg "check_file" = some (.ref f_check_file)
  f_blocks_of : Addr
  d_blocks_of : FuncData
  F_blocks_of : Fun K "blocks_of" "blocks_of" s_blocks_of f_blocks_of d_blocks_of
  b_blocks_of : Binds K d_blocks_of P_blocks_of []
  m_blocks_of : mg "blocks_of" = some (.ref f_blocks_of)
  f_filled : Addr
  d_filled : FuncData
  F_filled : Fun K "filled" "filled" s_filled f_filled d_filled
  b_filled : Binds K d_filled P_filled []
  m_filled : mg "filled" = some (.ref f_filled)
  f_has_sign : Addr
  d_has_sign : FuncData
  F_has_sign : Fun K "has_sign" "has_sign" s_has_sign f_has_sign d_has_sign
  b_has_sign : Binds K d_has_sign P_has_sign []
  m_has_sign : mg "has_sign" = some (.ref f_has_sign)
  f_are_steps : Addr
  d_are_steps : FuncData
  F_are_steps : Fun K "are_steps" "are_steps" s_are_steps f_are_steps d_are_steps
  b_are_steps : Binds K d_are_steps P_are_steps []
  m_are_steps : mg "are_steps" = some (.ref f_are_steps)
  f_check_script : Addr
  d_check_script : FuncData
  F_check_script : Fun K "check_script" "check_script" s_check_script f_check_script d_check_script
  b_check_script : Binds K d_check_script P_check_script []
  m_check_script : mg "check_script" = some (.ref f_check_script)
  f_holds_in : Addr
  d_holds_in : FuncData
  F_holds_in : Fun K "holds_in" "holds_in" s_holds_in f_holds_in d_holds_in
  b_holds_in : Binds K d_holds_in P_holds_in []
  m_holds_in : mg "holds_in" = some (.ref f_holds_in)
  f_is_held : Addr
  d_is_held : FuncData
  F_is_held : Fun K "is_held" "is_held" s_is_held f_is_held d_is_held
  b_is_held : Binds K d_is_held P_is_held []
  m_is_held : mg "is_held" = some (.ref f_is_held)
  f_least_of : Addr
  d_least_of : FuncData
  F_least_of : Fun K "least_of" "least_of" s_least_of f_least_of d_least_of
  b_least_of : Binds K d_least_of P_least_of []
  m_least_of : mg "least_of" = some (.ref f_least_of)
  f_dug : Addr
  d_dug : FuncData
  F_dug : Fun K "dug" "dug" s_dug f_dug d_dug
  b_dug : Binds K d_dug P_dug []
  m_dug : mg "dug" = some (.ref f_dug)
  f_behind_step : Addr
  d_behind_step : FuncData
  F_behind_step : Fun K "behind_step" "behind_step" s_behind_step f_behind_step d_behind_step
  b_behind_step : Binds K d_behind_step P_behind_step []
  m_behind_step : mg "behind_step" = some (.ref f_behind_step)
  f_reason_table : Addr
  d_reason_table : FuncData
  F_reason_table : Fun K "reason_table" "reason_table" s_reason_table f_reason_table d_reason_table
  b_reason_table : Binds K d_reason_table P_reason_table []
  m_reason_table : mg "reason_table" = some (.ref f_reason_table)
  f_cells_of : Addr
  d_cells_of : FuncData
  F_cells_of : Fun K "cells_of" "cells_of" s_cells_of f_cells_of d_cells_of
  b_cells_of : Binds K d_cells_of P_cells_of []
  m_cells_of : mg "cells_of" = some (.ref f_cells_of)
  f_reasons : Addr
  d_reasons : FuncData
  F_reasons : Fun K "reasons" "reasons" s_reasons f_reasons d_reasons
  b_reasons : Binds K d_reasons P_reasons []
  kb_reasons_1_cell : KwB K d_reasons P_reasons 1 ["cell"] [.p 0, .k 0]
  m_reasons : mg "reasons" = some (.ref f_reasons)
  f_moved_table : Addr
  d_moved_table : FuncData
  F_moved_table : Fun K "moved_table" "moved_table" s_moved_table f_moved_table d_moved_table
  b_moved_table : Binds K d_moved_table P_moved_table []
  m_moved_table : mg "moved_table" = some (.ref f_moved_table)
  f_put_down : Addr
  d_put_down : FuncData
  F_put_down : Fun K "put_down" "put_down" s_put_down f_put_down d_put_down
  b_put_down : Binds K d_put_down P_put_down []
  m_put_down : mg "put_down" = some (.ref f_put_down)
  f_more_of : Addr
  d_more_of : FuncData
  F_more_of : Fun K "more_of" "more_of" s_more_of f_more_of d_more_of
  b_more_of : Binds K d_more_of P_more_of []
  m_more_of : mg "more_of" = some (.ref f_more_of)
  f_check_two : Addr
  d_check_two : FuncData
  F_check_two : Fun K "check_two" "check_two" s_check_two f_check_two d_check_two
  b_check_two : Binds K d_check_two P_check_two []
  m_check_two : mg "check_two" = some (.ref f_check_two)
  f_more_file : Addr
  d_more_file : FuncData
  F_more_file : Fun K "more_file" "more_file" s_more_file f_more_file d_more_file
  b_more_file : Binds K d_more_file P_more_file []
  kb_more_file_0_other_one : KwB K d_more_file P_more_file 0 ["other", "one"] [.k 1, .k 0]
  m_more_file : mg "more_file" = some (.ref f_more_file)
  f_never_more : Addr
  d_never_more : FuncData
  F_never_more : Fun K "never_more" "never_more" s_never_more f_never_more d_never_more
  b_never_more : Binds K d_never_more P_never_more []
  kb_never_more_0_other_one : KwB K d_never_more P_never_more 0 ["other", "one"] [.k 1, .k 0]
  m_never_more : mg "never_more" = some (.ref f_never_more)
  f_parting_of : Addr
  d_parting_of : FuncData
  F_parting_of : Fun K "parting_of" "parting_of" s_parting_of f_parting_of d_parting_of
  b_parting_of : Binds K d_parting_of P_parting_of []
  m_parting_of : mg "parting_of" = some (.ref f_parting_of)
  f_parting : Addr
  d_parting : FuncData
  F_parting : Fun K "parting" "parting" s_parting f_parting d_parting
  b_parting : Binds K d_parting P_parting []
  kb_parting_0_other_one : KwB K d_parting P_parting 0 ["other", "one"] [.k 1, .k 0]
  m_parting : mg "parting" = some (.ref f_parting)
  f_alike : Addr
  d_alike : FuncData
  F_alike : Fun K "alike" "alike" s_alike f_alike d_alike
  b_alike : Binds K d_alike P_alike []
  kb_alike_0_other_one : KwB K d_alike P_alike 0 ["other", "one"] [.k 1, .k 0]
  m_alike : mg "alike" = some (.ref f_alike)
  f_exchangeable : Addr
  d_exchangeable : FuncData
  F_exchangeable : Fun K "exchangeable" "exchangeable" s_exchangeable f_exchangeable d_exchangeable
  b_exchangeable : Binds K d_exchangeable P_exchangeable []
  kb_exchangeable_0_other_one : KwB K d_exchangeable P_exchangeable 0 ["other", "one"] [.k 1, .k 0]
  m_exchangeable : mg "exchangeable" = some (.ref f_exchangeable)
  f_law_files_right : Addr
  d_law_files_right : FuncData
  F_law_files_right : Fun K "_law_files_right" "_law_files_right" s_law_files_right f_law_files_right d_law_files_right
  b_law_files_right : Binds K d_law_files_right P_law_files_right []
  m_law_files_right : mg "_law_files_right" = some (.ref f_law_files_right)
  f_law_rest_right : Addr
  d_law_rest_right : FuncData
  F_law_rest_right : Fun K "_law_rest_right" "_law_rest_right" s_law_rest_right f_law_rest_right d_law_rest_right
  b_law_rest_right : Binds K d_law_rest_right P_law_rest_right []
  m_law_rest_right : mg "_law_rest_right" = some (.ref f_law_rest_right)
  f_law : Addr
  d_law : FuncData
  F_law : Fun K "law" "law" s_law f_law d_law
  f_File_init : Addr
  d_File_init : FuncData
  F_File_init : FunV K "__init__" "File.__init__" s_File_init f_File_init d_File_init
  b_File_init : Binds K d_File_init P_File_init []
  kb_File_init_1_cells : KwB K d_File_init P_File_init 1 ["cells"] [.p 0, .k 0]
  f_File_cells : Addr
  d_File_cells : FuncData
  F_File_cells : Fun K "cells" "File.cells" s_File_cells f_File_cells d_File_cells
  b_File_cells : Binds K d_File_cells P_File_cells []
  pr_File_cells : Addr
  V_File_cells : PropOf K C_File "cells" pr_File_cells f_File_cells
  f_File_eq : Addr
  d_File_eq : FuncData
  F_File_eq : Fun K "__eq__" "File.__eq__" s_File_eq f_File_eq d_File_eq
  b_File_eq : Binds K d_File_eq P_File_eq []
  M_File_eq : Meth K C_File "__eq__" f_File_eq
  f_File_cut : Addr
  d_File_cut : FuncData
  F_File_cut : Fun K "cut" "File.cut" s_File_cut f_File_cut d_File_cut
  b_File_cut : Binds K d_File_cut P_File_cut []
  kb_File_cut_1_length : KwB K d_File_cut P_File_cut 1 ["length"] [.p 0, .k 0]
  M_File_cut : Meth K C_File "cut" f_File_cut
  f_File_grown : Addr
  d_File_grown : FuncData
  F_File_grown : Fun K "grown" "File.grown" s_File_grown f_File_grown d_File_grown
  b_File_grown : Binds K d_File_grown P_File_grown []
  kb_File_grown_1_length : KwB K d_File_grown P_File_grown 1 ["length"] [.p 0, .k 0]
  M_File_grown : Meth K C_File "grown" f_File_grown
  f_File_punched : Addr
  d_File_punched : FuncData
  F_File_punched : Fun K "punched" "File.punched" s_File_punched f_File_punched d_File_punched
  b_File_punched : Binds K d_File_punched P_File_punched []
  kb_File_punched_1_size_end_begin : KwB K d_File_punched P_File_punched 1 ["size", "end", "begin"] [.p 0, .k 2, .k 1, .k 0]
  M_File_punched : Meth K C_File "punched" f_File_punched
  f_Step_play : Addr
  d_Step_play : FuncData
  F_Step_play : Fun K "play" "Step.play" s_Step_play f_Step_play d_Step_play
  b_Step_play : Binds K d_Step_play P_Step_play []
  kb_Step_play_1_file : KwB K d_Step_play P_Step_play 1 ["file"] [.p 0, .k 0]
  f_Full_changed : Addr
  d_Full_changed : FuncData
  F_Full_changed : Fun K "changed" "Full.changed" s_Full_changed f_Full_changed d_Full_changed
  b_Full_changed : Binds K d_Full_changed P_Full_changed []
  M_Full_changed : Meth K C_Full "changed" f_Full_changed
  f_Full_eq : Addr
  d_Full_eq : FuncData
  F_Full_eq : Fun K "__eq__" "Full.__eq__" s_Full_eq f_Full_eq d_Full_eq
  b_Full_eq : Binds K d_Full_eq P_Full_eq []
  M_Full_eq : Meth K C_Full "__eq__" f_Full_eq
  f_Keep_init : Addr
  d_Keep_init : FuncData
  F_Keep_init : Fun K "__init__" "Keep.__init__" s_Keep_init f_Keep_init d_Keep_init
  b_Keep_init : Binds K d_Keep_init P_Keep_init []
  kb_Keep_init_1_size : KwB K d_Keep_init P_Keep_init 1 ["size"] [.p 0, .k 0]
  f_Keep_size : Addr
  d_Keep_size : FuncData
  F_Keep_size : Fun K "size" "Keep.size" s_Keep_size f_Keep_size d_Keep_size
  b_Keep_size : Binds K d_Keep_size P_Keep_size []
  pr_Keep_size : Addr
  V_Keep_size : PropOf K C_Keep "size" pr_Keep_size f_Keep_size
  f_Keep_changed : Addr
  d_Keep_changed : FuncData
  F_Keep_changed : Fun K "changed" "Keep.changed" s_Keep_changed f_Keep_changed d_Keep_changed
  b_Keep_changed : Binds K d_Keep_changed P_Keep_changed []
  M_Keep_changed : Meth K C_Keep "changed" f_Keep_changed
  f_Keep_eq : Addr
  d_Keep_eq : FuncData
  F_Keep_eq : Fun K "__eq__" "Keep.__eq__" s_Keep_eq f_Keep_eq d_Keep_eq
  b_Keep_eq : Binds K d_Keep_eq P_Keep_eq []
  M_Keep_eq : Meth K C_Keep "__eq__" f_Keep_eq
  f_Lean_init : Addr
  d_Lean_init : FuncData
  F_Lean_init : Fun K "__init__" "Lean.__init__" s_Lean_init f_Lean_init d_Lean_init
  b_Lean_init : Binds K d_Lean_init P_Lean_init []
  kb_Lean_init_1_size : KwB K d_Lean_init P_Lean_init 1 ["size"] [.p 0, .k 0]
  f_Lean_size : Addr
  d_Lean_size : FuncData
  F_Lean_size : Fun K "size" "Lean.size" s_Lean_size f_Lean_size d_Lean_size
  b_Lean_size : Binds K d_Lean_size P_Lean_size []
  pr_Lean_size : Addr
  V_Lean_size : PropOf K C_Lean "size" pr_Lean_size f_Lean_size
  f_Lean_changed : Addr
  d_Lean_changed : FuncData
  F_Lean_changed : Fun K "changed" "Lean.changed" s_Lean_changed f_Lean_changed d_Lean_changed
  b_Lean_changed : Binds K d_Lean_changed P_Lean_changed []
  M_Lean_changed : Meth K C_Lean "changed" f_Lean_changed
  f_Lean_eq : Addr
  d_Lean_eq : FuncData
  F_Lean_eq : Fun K "__eq__" "Lean.__eq__" s_Lean_eq f_Lean_eq d_Lean_eq
  b_Lean_eq : Binds K d_Lean_eq P_Lean_eq []
  M_Lean_eq : Meth K C_Lean "__eq__" f_Lean_eq
  f_Dig_init : Addr
  d_Dig_init : FuncData
  F_Dig_init : Fun K "__init__" "Dig.__init__" s_Dig_init f_Dig_init d_Dig_init
  b_Dig_init : Binds K d_Dig_init P_Dig_init []
  kb_Dig_init_1_size : KwB K d_Dig_init P_Dig_init 1 ["size"] [.p 0, .k 0]
  f_Dig_size : Addr
  d_Dig_size : FuncData
  F_Dig_size : Fun K "size" "Dig.size" s_Dig_size f_Dig_size d_Dig_size
  b_Dig_size : Binds K d_Dig_size P_Dig_size []
  pr_Dig_size : Addr
  V_Dig_size : PropOf K C_Dig "size" pr_Dig_size f_Dig_size
  f_Dig_changed : Addr
  d_Dig_changed : FuncData
  F_Dig_changed : Fun K "changed" "Dig.changed" s_Dig_changed f_Dig_changed d_Dig_changed
  b_Dig_changed : Binds K d_Dig_changed P_Dig_changed []
  M_Dig_changed : Meth K C_Dig "changed" f_Dig_changed
  f_Dig_eq : Addr
  d_Dig_eq : FuncData
  F_Dig_eq : Fun K "__eq__" "Dig.__eq__" s_Dig_eq f_Dig_eq d_Dig_eq
  b_Dig_eq : Binds K d_Dig_eq P_Dig_eq []
  M_Dig_eq : Meth K C_Dig "__eq__" f_Dig_eq
  f_Script_init : Addr
  d_Script_init : FuncData
  F_Script_init : FunV K "__init__" "Script.__init__" s_Script_init f_Script_init d_Script_init
  b_Script_init : Binds K d_Script_init P_Script_init []
  kb_Script_init_1_steps : KwB K d_Script_init P_Script_init 1 ["steps"] [.p 0, .k 0]
  f_Script_period : Addr
  d_Script_period : FuncData
  F_Script_period : Fun K "period" "Script.period" s_Script_period f_Script_period d_Script_period
  b_Script_period : Binds K d_Script_period P_Script_period []
  pr_Script_period : Addr
  V_Script_period : PropOf K C_Script "period" pr_Script_period f_Script_period
  f_Script_iter : Addr
  d_Script_iter : FuncData
  F_Script_iter : Fun K "__iter__" "Script.__iter__" s_Script_iter f_Script_iter d_Script_iter
  b_Script_iter : Binds K d_Script_iter P_Script_iter []
  M_Script_iter : Meth K C_Script "__iter__" f_Script_iter
  f_Script_eq : Addr
  d_Script_eq : FuncData
  F_Script_eq : Fun K "__eq__" "Script.__eq__" s_Script_eq f_Script_eq d_Script_eq
  b_Script_eq : Binds K d_Script_eq P_Script_eq []
  M_Script_eq : Meth K C_Script "__eq__" f_Script_eq
  f_Script_add : Addr
  d_Script_add : FuncData
  F_Script_add : Fun K "__add__" "Script.__add__" s_Script_add f_Script_add d_Script_add
  b_Script_add : Binds K d_Script_add P_Script_add []
  M_Script_add : Meth K C_Script "__add__" f_Script_add
  f_Script_without : Addr
  d_Script_without : FuncData
  F_Script_without : Fun K "without" "Script.without" s_Script_without f_Script_without d_Script_without
  b_Script_without : Binds K d_Script_without P_Script_without []
  kb_Script_without_1_k : KwB K d_Script_without P_Script_without 1 ["k"] [.p 0, .k 0]
  M_Script_without : Meth K C_Script "without" f_Script_without
  f_Script_traces : Addr
  d_Script_traces : FuncData
  F_Script_traces : Fun K "traces" "Script.traces" s_Script_traces f_Script_traces d_Script_traces
  b_Script_traces : Binds K d_Script_traces P_Script_traces []
  kb_Script_traces_1_file : KwB K d_Script_traces P_Script_traces 1 ["file"] [.p 0, .k 0]
  M_Script_traces : Meth K C_Script "traces" f_Script_traces
  f_Script_play : Addr
  d_Script_play : FuncData
  F_Script_play : Fun K "play" "Script.play" s_Script_play f_Script_play d_Script_play
  b_Script_play : Binds K d_Script_play P_Script_play []
  kb_Script_play_1_file : KwB K d_Script_play P_Script_play 1 ["file"] [.p 0, .k 0]
  M_Script_play : Meth K C_Script "play" f_Script_play
  L_File : ICls K C_File
  K_File : Mk K C_File f_File_init
  A_File_row : NoAttr K C_File "row"
  L_Full : ICls K C_Full
  K_Full : Mk0 K C_Full
  L_Keep : ICls K C_Keep
  K_Keep : Mk K C_Keep f_Keep_init
  A_Keep_wide : NoAttr K C_Keep "wide"
  L_Lean : ICls K C_Lean
  K_Lean : Mk K C_Lean f_Lean_init
  A_Lean_wide : NoAttr K C_Lean "wide"
  L_Dig : ICls K C_Dig
  K_Dig : Mk K C_Dig f_Dig_init
  A_Dig_wide : NoAttr K C_Dig "wide"
  L_Script : ICls K C_Script
  K_Script : Mk K C_Script f_Script_init
  A_Script_rows : NoAttr K C_Script "rows"
  M_Full_play : Meth K C_Full "play" f_Step_play
  M_Keep_play : Meth K C_Keep "play" f_Step_play
  M_Lean_play : Meth K C_Lean "play" f_Step_play
  M_Dig_play : Meth K C_Dig "play" f_Step_play
  ne_File : PySem.W.findIn K (.ref C_File) "__ne__" = some (some (.builtin "object.__ne__"))
  ne_Full : PySem.W.findIn K (.ref C_Full) "__ne__" = some (some (.builtin "object.__ne__"))
  ne_Keep : PySem.W.findIn K (.ref C_Keep) "__ne__" = some (some (.builtin "object.__ne__"))
  ne_Lean : PySem.W.findIn K (.ref C_Lean) "__ne__" = some (some (.builtin "object.__ne__"))
  ne_Dig : PySem.W.findIn K (.ref C_Dig) "__ne__" = some (some (.builtin "object.__ne__"))
  ne_Script : PySem.W.findIn K (.ref C_Script) "__ne__" = some (some (.builtin "object.__ne__"))
  sf_Script : PySem.W.selfFirst K C_Script = true
  bo_Script_add : PySem.W.findIn K (.ref C_Script) (PySem.dunder (Operator.info .Add).2) = some (some (.ref f_Script_add))
  s_File_File : PySem.W.kitOne K (.ref C_File) (.ref C_File) = some true
  s_Full_Dig : PySem.W.kitOne K (.ref C_Full) (.ref C_Dig) = some false
  s_Full_Full : PySem.W.kitOne K (.ref C_Full) (.ref C_Full) = some true
  s_Full_Keep : PySem.W.kitOne K (.ref C_Full) (.ref C_Keep) = some false
  s_Full_Lean : PySem.W.kitOne K (.ref C_Full) (.ref C_Lean) = some false
  s_Full_Step : PySem.W.kitOne K (.ref C_Full) (.ref C_Step) = some true
  nf_Keep_Full : PySem.W.notFirst K C_Keep (.ref C_Full) = true
  nf_Lean_Full : PySem.W.notFirst K C_Lean (.ref C_Full) = true
  nf_Dig_Full : PySem.W.notFirst K C_Dig (.ref C_Full) = true
  s_Keep_Dig : PySem.W.kitOne K (.ref C_Keep) (.ref C_Dig) = some false
  s_Keep_Full : PySem.W.kitOne K (.ref C_Keep) (.ref C_Full) = some false
  s_Keep_Keep : PySem.W.kitOne K (.ref C_Keep) (.ref C_Keep) = some true
  s_Keep_Lean : PySem.W.kitOne K (.ref C_Keep) (.ref C_Lean) = some false
  s_Keep_Step : PySem.W.kitOne K (.ref C_Keep) (.ref C_Step) = some true
  nf_Full_Keep : PySem.W.notFirst K C_Full (.ref C_Keep) = true
  nf_Lean_Keep : PySem.W.notFirst K C_Lean (.ref C_Keep) = true
  nf_Dig_Keep : PySem.W.notFirst K C_Dig (.ref C_Keep) = true
  s_Lean_Dig : PySem.W.kitOne K (.ref C_Lean) (.ref C_Dig) = some false
  s_Lean_Full : PySem.W.kitOne K (.ref C_Lean) (.ref C_Full) = some false
  s_Lean_Keep : PySem.W.kitOne K (.ref C_Lean) (.ref C_Keep) = some false
  s_Lean_Lean : PySem.W.kitOne K (.ref C_Lean) (.ref C_Lean) = some true
  s_Lean_Step : PySem.W.kitOne K (.ref C_Lean) (.ref C_Step) = some true
  nf_Full_Lean : PySem.W.notFirst K C_Full (.ref C_Lean) = true
  nf_Keep_Lean : PySem.W.notFirst K C_Keep (.ref C_Lean) = true
  nf_Dig_Lean : PySem.W.notFirst K C_Dig (.ref C_Lean) = true
  s_Dig_Dig : PySem.W.kitOne K (.ref C_Dig) (.ref C_Dig) = some true
  s_Dig_Full : PySem.W.kitOne K (.ref C_Dig) (.ref C_Full) = some false
  s_Dig_Keep : PySem.W.kitOne K (.ref C_Dig) (.ref C_Keep) = some false
  s_Dig_Lean : PySem.W.kitOne K (.ref C_Dig) (.ref C_Lean) = some false
  s_Dig_Step : PySem.W.kitOne K (.ref C_Dig) (.ref C_Step) = some true
  nf_Full_Dig : PySem.W.notFirst K C_Full (.ref C_Dig) = true
  nf_Keep_Dig : PySem.W.notFirst K C_Keep (.ref C_Dig) = true
  nf_Lean_Dig : PySem.W.notFirst K C_Lean (.ref C_Dig) = true
  s_Script_Script : PySem.W.kitOne K (.ref C_Script) (.ref C_Script) = some true
  C_InvalidFile : Addr
  I_InvalidFile : Addr
  mc_InvalidFile : mg "InvalidFile" = some (.ref C_InvalidFile)
  S_InvalidFile : SupX PySem.Challenge.rw_keptholes_k40_arguments_by_name.prog K C_InvalidFile I_InvalidFile "value" "value"
  C_InvalidNumber : Addr
  I_InvalidNumber : Addr
  mc_InvalidNumber : mg "InvalidNumber" = some (.ref C_InvalidNumber)
  S_InvalidNumber : SupX PySem.Challenge.rw_keptholes_k40_arguments_by_name.prog K C_InvalidNumber I_InvalidNumber "value" "value"
  C_InvalidScript : Addr
  C_InvalidList : Addr
  I_InvalidList : Addr
  mc_InvalidList : mg "InvalidList" = some (.ref C_InvalidList)
  S_InvalidList : SupX PySem.Challenge.rw_keptholes_k40_arguments_by_name.prog K C_InvalidList I_InvalidList "value" "value"
end Kh

set_option Elab.async false
set_option linter.all false
set_option maxRecDepth 100000
set_option maxHeartbeats 4000000
namespace Kh
open PySem PySem.Spec L2
inductive StepT where
  | full
  | keep (n : Int)
  | lean (n : Int)
  | dig (n : Int)
  deriving DecidableEq
def stepA : StepT → Any
  | .full => .obj .full []
  | .keep n => .obj .keep [.int n]
  | .lean n => .obj .lean [.int n]
  | .dig n => .obj .dig [.int n]
def is_Dig : StepT → Bool
  | .full => false
  | .keep _ => false
  | .lean _ => false
  | .dig _ => true
def is_Full : StepT → Bool
  | .full => true
  | .keep _ => false
  | .lean _ => false
  | .dig _ => false
def is_Keep : StepT → Bool
  | .full => false
  | .keep _ => true
  | .lean _ => false
  | .dig _ => false
def is_Lean : StepT → Bool
  | .full => false
  | .keep _ => false
  | .lean _ => true
  | .dig _ => false
def m_Step_wide : StepT → Res Int
  | .full => .bad
  | .keep n => .ok n
  | .lean n => .ok n
  | .dig n => .ok n

def m_is_whole (a_value : Int) : Res Bool :=
  (andR (Res.ok true) (Res.ok (!false))).bind fun z1 => Res.ok z1

def m_check_least (a_value : Int) (a_least : Int) : Res Unit :=
  (m_is_whole a_value).bind fun z1 => cond z1 (cond (decide (a_value < a_least)) (Res.err ⟨.number, (Any.int a_value)⟩) (Res.ok ())) (Res.err ⟨.number, (Any.int a_value)⟩)

def m_Keep_make (n : Int) : Res Int := (m_check_least n 1).bind fun _ => .ok n

def m_Dig_make (n : Int) : Res Int := (m_check_least n 1).bind fun _ => .ok n

def m_Lean_make (n : Int) : Res Int := (m_check_least n 1).bind fun _ => .ok n

def m_are_steps (a_value : (List StepT)) : Res Bool :=
  (andR (Res.ok true) ((compR (β := StepT) (fun x1 => Res.ok none) a_value).bind fun l2 => Res.ok (l2.isEmpty))).bind fun z3 => Res.ok z3

def m_Script_make (o : Option (List StepT)) : Res (List StepT) := (m_are_steps (o.getD [])).bind fun b => guard (b = true) (o.getD [])

def m_are_cells (a_value : Str) : Res Bool :=
  (andR (Res.ok true) ((compR (β := Nat) (fun x1 => (pcat (".0" : Str) ("abcdefghijklmnopqrstuvwxyz" : Str)).bind fun z2 => cond (!decide (x1 ∈ signsL z2)) (Res.ok (some x1)) (Res.ok none)) (signsL a_value)).bind fun l3 => Res.ok (l3.isEmpty))).bind fun z4 => Res.ok z4

def m_File_make (z : Str) : Res Str := (m_are_cells z).bind fun b => cond b (.ok z) (.err ⟨.file, .str z⟩)

def m_File_eq (a_self : Str) (a_other : Str) : Res Bool :=
  (andR (Res.ok true) (Res.ok (decide (a_self = a_other)))).bind fun z1 => Res.ok z1

def m_check_within (a_value : Int) (a_first : Int) (a_last : Int) : Res Unit :=
  (m_is_whole a_value).bind fun z1 => cond z1 ((cond (decide (a_first ≤ a_value)) (Res.ok (decide (a_value ≤ a_last))) (Res.ok false)).bind fun t3 => cond t3 (Res.ok ()) (Res.err ⟨.number, (Any.int a_value)⟩)) (Res.err ⟨.number, (Any.int a_value)⟩)

def m_File_cut (a_self : Str) (a_length : Int) : Res Str :=
  (plenS a_self).bind fun z1 => (m_check_within a_length (0 : Int) z1).bind fun z2 => (pslS a_self none (some a_length)).bind fun z3 => (m_File_make z3).bind fun z4 => Res.ok z4

def m_File_grown (a_self : Str) (a_length : Int) : Res Str :=
  (plenS a_self).bind fun z1 => (m_check_least a_length z1).bind fun z2 => (plenS a_self).bind fun z3 => (prepS ("." : Str) (a_length - z3)).bind fun z4 => (pcat a_self z4).bind fun z5 => (m_File_make z5).bind fun z6 => Res.ok z6

def m_punched_cell (a_cell : Int) (a_begin : Int) (a_end : Int) (a_size : Int) (a_length : Int) : Res Str :=
  (pdiv a_cell a_size).bind fun z1 => (pmul z1 a_size).bind fun z2 => (andR (Res.ok (decide (a_begin ≤ z2))) (Res.ok (decide ((min (z2 + a_size) a_length) ≤ a_end)))).bind fun t3 => cond t3 (Res.ok ("." : Str)) (Res.ok ("0" : Str))

def m_File_punched (a_self : Str) (a_begin : Int) (a_end : Int) (a_size : Int) : Res Str :=
  (plenS a_self).bind fun z1 => (m_check_within a_begin (0 : Int) z1).bind fun z2 => (plenS a_self).bind fun z3 => (m_check_within a_end a_begin z3).bind fun z4 => (m_check_least a_size (1 : Int)).bind fun z5 => (guard (small62 a_begin ∧ small62 a_end) ()).bind fun _ => (compR (β := Str) (fun x6 => (plenS a_self).bind fun z7 => (m_punched_cell x6 a_begin a_end a_size z7).bind fun z8 => Res.ok (some z8)) (rangeL a_begin (Int.toNat (a_end - a_begin)))).bind fun l9 => (pslS a_self none (some a_begin)).bind fun z10 => (pjoin ("" : Str) l9).bind fun z11 => (pcat z10 z11).bind fun z12 => (pslS a_self (some a_end) none).bind fun z13 => (pcat z12 z13).bind fun z14 => (m_File_make z14).bind fun z15 => Res.ok z15

def m_Keep_eq (a_self : Int) (a_other : Int) : Res Bool :=
  (andR (Res.ok true) (Res.ok (decide (a_self = a_other)))).bind fun z1 => Res.ok z1

def m_Lean_eq (a_self : Int) (a_other : Int) : Res Bool :=
  (andR (Res.ok true) (Res.ok (decide (a_self = a_other)))).bind fun z1 => Res.ok z1

def m_Dig_eq (a_self : Int) (a_other : Int) : Res Bool :=
  (andR (Res.ok true) (Res.ok (decide (a_self = a_other)))).bind fun z1 => Res.ok z1

def m_Full_eq__v2 (a_self : Unit) (a_other : StepT) : Res Bool :=
  Res.ok (is_Full a_other)

def m_Keep_eq__v2 (a_self : Int) (a_other : StepT) : Res Bool :=
  (andR (Res.ok (is_Keep a_other)) ((m_Step_wide a_other).bind fun z1 => Res.ok (decide (a_self = z1)))).bind fun z2 => Res.ok z2

def m_Lean_eq__v2 (a_self : Int) (a_other : StepT) : Res Bool :=
  (andR (Res.ok (is_Lean a_other)) ((m_Step_wide a_other).bind fun z1 => Res.ok (decide (a_self = z1)))).bind fun z2 => Res.ok z2

def m_Dig_eq__v2 (a_self : Int) (a_other : StepT) : Res Bool :=
  (andR (Res.ok (is_Dig a_other)) ((m_Step_wide a_other).bind fun z1 => Res.ok (decide (a_self = z1)))).bind fun z2 => Res.ok z2

def m_Step_eq (s t : StepT) : Res Bool :=
  match s with
  | .full => m_Full_eq__v2 () t
  | .keep n => m_Keep_eq__v2 n t
  | .lean n => m_Lean_eq__v2 n t
  | .dig n => m_Dig_eq__v2 n t

def m_Script_eq (a_self : (List StepT)) (a_other : (List StepT)) : Res Bool :=
  (andR (Res.ok true) ((eqV m_Step_eq a_self a_other).ne.bind fun z1 => Res.ok z1)).bind fun z2 => Res.ok z2

def m_Script_without (a_self : (List StepT)) (a_k : Int) : Res (List StepT) :=
  (m_check_within a_k (0 : Int) ((a_self.length : Int) - (1 : Int))).bind fun z1 => (pcatL (cutD a_self none (some a_k)) (cutD a_self (some (a_k + (1 : Int))) none)).bind fun z4 => (m_Script_make (some z4)).bind fun z5 => Res.ok z5

def m_check_file (a_value : Str) : Res Unit :=
  Res.ok ()

def m_filled (a_cells : Str) : Res Str :=
  (preplS a_cells "." "0").bind fun z1 => Res.ok z1

def m_Full_changed (a_self : Unit) (a_cells : Str) : Res Str :=
  (m_filled a_cells).bind fun z1 => Res.ok z1

def m_blocks_of (a_cells : Str) (a_size : Int) : Res (List Str) :=
  (plenS a_cells).bind fun z1 => (guard (rng3ok (0 : Int) z1 a_size) ()).bind fun _ => (compR (β := Str) (fun x2 => (pslS a_cells (some x2) (some (x2 + a_size))).bind fun z3 => Res.ok (some z3)) (rangeC (0 : Int) a_size (Int.toNat ((z1 - (0 : Int) + a_size - 1) / a_size)))).bind fun l4 => Res.ok l4

def m_Keep_changed (a_self : Int) (a_cells : Str) : Res Str :=
  (m_blocks_of a_cells a_self).bind fun z1 => (compR (β := Str) (fun x2 => ((plenS x2).bind fun z3 => (prepS ("." : Str) z3).bind fun z4 => cond (decide (x2 = z4)) (Res.ok x2) ((m_filled x2).bind fun z5 => Res.ok z5)).bind fun z6 => Res.ok (some z6)) z1).bind fun l7 => (pjoin ("" : Str) l7).bind fun z8 => Res.ok z8

def m_has_sign (a_cells : Str) : Res Bool :=
  (compR (β := Nat) (fun x1 => cond (!decide (x1 ∈ signsL (".0" : Str))) (Res.ok (some x1)) (Res.ok none)) (signsL a_cells)).bind fun l2 => Res.ok (!l2.isEmpty)

def m_Lean_changed (a_self : Int) (a_cells : Str) : Res Str :=
  (m_blocks_of a_cells a_self).bind fun z1 => (compR (β := Str) (fun x2 => ((m_has_sign x2).bind fun z3 => cond z3 ((m_filled x2).bind fun z4 => Res.ok z4) ((plenS x2).bind fun z5 => (prepS ("." : Str) z5).bind fun z6 => Res.ok z6)).bind fun z7 => Res.ok (some z7)) z1).bind fun l8 => (pjoin ("" : Str) l8).bind fun z9 => Res.ok z9

def m_Dig_changed (a_self : Int) (a_cells : Str) : Res Str :=
  (m_blocks_of a_cells a_self).bind fun z1 => (compR (β := Str) (fun x2 => ((m_has_sign x2).bind fun z3 => cond z3 (Res.ok x2) ((plenS x2).bind fun z4 => (prepS ("." : Str) z4).bind fun z5 => Res.ok z5)).bind fun z6 => Res.ok (some z6)) z1).bind fun l7 => (pjoin ("" : Str) l7).bind fun z8 => Res.ok z8

def m_Step_changed (s : StepT) (a0 : Str) : Res Str :=
  match s with
  | .full => m_Full_changed () a0
  | .keep n => m_Keep_changed n a0
  | .lean n => m_Lean_changed n a0
  | .dig n => m_Dig_changed n a0

def m_File_cells (a_self : Str) : Res Str :=
  Res.ok a_self

def m_Step_play (a_self : StepT) (a_file : Str) : Res Str :=
  (m_check_file a_file).bind fun z1 => (m_File_cells a_file).ne.bind fun z2 => (m_Step_changed a_self z2).bind fun z3 => (m_File_make z3).bind fun z4 => Res.ok z4


def m_Script_traces (a_self : (List StepT)) (a_file : Str) : Res (List Str) :=
  (m_check_file a_file).bind fun z1 => (foldR (fun (s3 : (Str × (List Str))) x4 => (m_Step_play x4 s3.1).bind fun z7 => (papp s3.2 z7).bind fun z8 => Res.ok (z7, z8)) a_self (a_file, ([] : List Str))).bind fun s3 => Res.ok s3.2

def m_Script_play (a_self : (List StepT)) (a_file : Str) : Res Str :=
  (m_check_file a_file).bind fun z1 => (m_Script_traces a_self a_file).bind fun z2 => (pcatL ([a_file] : List Str) z2).bind fun z3 => (pix z3 (-(1 : Int))).bind fun z4 => Res.ok z4



def m_law_files_right (a_w : Str) (a_u : Int) (a_v : Int) : Res Bool :=
  (m_File_make a_w).bind fun z1 => (m_File_make a_w).bind fun z2 => (m_File_eq z1 z2).ne.bind fun z3 => cond (!z3) (Res.ok false) ((m_File_cut z1 a_u).bind fun z5 => (m_File_cut z1 a_u).bind fun z6 => (m_File_eq z5 z6).ne.bind fun z7 => cond (!z7) (Res.ok false) ((m_File_grown z1 ((9 : Int) + a_v)).bind fun z9 => (m_File_grown z1 ((9 : Int) + a_v)).bind fun z10 => (m_File_eq z9 z10).ne.bind fun z11 => cond (!z11) (Res.ok false) ((m_File_punched z1 a_u (a_u + a_v) (2 : Int)).bind fun z13 => (m_File_punched z1 a_u (a_u + a_v) (2 : Int)).bind fun z14 => (m_File_eq z13 z14).ne.bind fun z15 => cond (!z15) (Res.ok false) ((m_Keep_make (a_u + (1 : Int))).bind fun z17 => (m_Keep_make (a_u + (1 : Int))).bind fun z18 => (m_Keep_eq z17 z18).ne.bind fun z19 => cond (!z19) (Res.ok false) ((m_Lean_make (a_u + (1 : Int))).bind fun z21 => (m_Lean_make (a_u + (1 : Int))).bind fun z22 => (m_Lean_eq z21 z22).ne.bind fun z23 => cond (!z23) (Res.ok false) ((m_Dig_make (a_u + (1 : Int))).bind fun z25 => (m_Dig_make (a_u + (1 : Int))).bind fun z26 => (m_Dig_eq z25 z26).ne.bind fun z27 => cond (!z27) (Res.ok false) ((m_Keep_make (2 : Int)).bind fun z29 => (m_Dig_make (a_u + (1 : Int))).bind fun z30 => (m_Script_make (some ([(StepT.keep z29), (StepT.dig z30), StepT.full] : List StepT))).bind fun z31 => (m_Keep_make (2 : Int)).bind fun z32 => (m_Dig_make (a_u + (1 : Int))).bind fun z33 => (m_Script_make (some ([(StepT.keep z32), (StepT.dig z33), StepT.full] : List StepT))).bind fun z34 => (m_Script_eq z31 z34).ne.bind fun z35 => cond (!z35) (Res.ok false) ((m_Script_without z31 (1 : Int)).bind fun z37 => (m_Script_without z31 (1 : Int)).bind fun z38 => (m_Script_eq z37 z38).ne.bind fun z39 => cond (!z39) (Res.ok false) ((m_Script_play z31 z1).bind fun z41 => (m_Script_play z31 z1).bind fun z42 => (m_File_eq z41 z42).ne.bind fun z43 => cond (!z43) (Res.ok false) ((m_Script_traces z31 z1).bind fun z45 => (m_Script_traces z31 z1).bind fun z46 => (eqVL m_File_eq z45 z46).ne.bind fun z47 => cond (!z47) (Res.ok false) ((m_Keep_make (3 : Int)).bind fun z49 => (m_Lean_make (2 : Int)).bind fun z50 => (m_Dig_make (2 : Int)).bind fun z51 => (compR (β := StepT) (fun x52 => (m_Step_play x52 z1).bind fun z53 => (m_Step_play x52 z1).bind fun z54 => (m_File_eq z53 z54).ne.bind fun z55 => cond (!z55) (Res.ok (some x52)) (Res.ok none)) ([StepT.full, (StepT.keep z49), (StepT.lean z50), (StepT.dig z51)] : List StepT)).bind fun l56 => Res.ok (l56.isEmpty))))))))))))

def m_check_script (a_value : (List StepT)) : Res Unit :=
  Res.ok ()

def m_check_two (a_one : (List StepT)) (a_other : (List StepT)) : Res Unit :=
  (m_check_script a_one).bind fun z1 => (m_check_script a_other).bind fun z2 => Res.ok ()

/-! divisor_of(one, other) -/
def m_divisor_of (a b : Int) : Res Int := guard (0 ≤ a ∧ 0 ≤ b) (Int.gcd a b : Int)

def m_multiple_of (a_numbers : (List Int)) : Res Int :=
  (foldR (fun (s1 : Int) x2 => (m_divisor_of s1 x2).bind fun z5 => (pdiv s1 z5).bind fun z6 => (pmul z6 x2).bind fun z7 => Res.ok z7) a_numbers (1 : Int)).bind fun s1 => Res.ok s1

def m_Keep_size (a_self : Int) : Res Int :=
  Res.ok a_self

def m_Lean_size (a_self : Int) : Res Int :=
  Res.ok a_self

def m_Dig_size (a_self : Int) : Res Int :=
  Res.ok a_self

def m_Step_size (s : StepT) : Res Int :=
  match s with
  | .full => .bad
  | .keep n => m_Keep_size n
  | .lean n => m_Lean_size n
  | .dig n => m_Dig_size n

def m_Script_period (a_self : (List StepT)) : Res Int :=
  (compR (β := Int) (fun x1 => cond (is_Full x1) (Res.ok none) ((m_Step_size x1).ne.bind fun z2 => Res.ok (some z2))) a_self).bind fun l3 => (m_multiple_of l3).bind fun z4 => Res.ok z4

def m_holds_in (a_one : (Int × Int)) (a_other : (Int × Int)) : Res Bool :=
  (andR (Res.ok (decide ((Builtin.bitAnd a_one.1 a_other.1) = a_one.1))) (Res.ok (decide ((Builtin.bitAnd a_one.2 a_other.2) = a_one.2)))).bind fun z1 => Res.ok z1

def m_is_held__v2 (a_rows : (List (Int × Int))) (a_other : (Int × Int)) : Res Bool :=
  (forR (ρ := Bool) (fun (s1 : Unit) x2 => (m_holds_in x2 a_other).bind fun z5 => cond z5 (Res.ok (Ctl.rt true)) (Res.ok (Ctl.nx ()))) a_rows ()).bind (Ctl.fin (fun s1 => Res.ok false) (fun r => Res.ok r))

def m_least_of (a_rows : (List (Int × Int))) : Res (List (Int × Int)) :=
  (psrt a_rows).bind fun z2 => (foldR (fun (s3 : (List (Int × Int))) x4 => ((m_is_held__v2 s3 x4).bind fun z8 => cond z8 (Res.ok s3) ((papp s3 x4).bind fun z9 => Res.ok z9)).bind fun (s7 : (List (Int × Int))) => Res.ok s7) z2 ([] : List (Int × Int))).bind fun s3 => Res.ok s3

def m_dug (a_rows : List (Int × Int)) (a_bits : List Int) : Res (List (Int × Int)) :=
  (compR (β := (Int × Int)) (fun x1 => cond (decide ((Builtin.bitAnd x1.2 (a_bits.sum)) = (0 : Int))) (Res.ok (some x1)) (Res.ok none)) a_rows).bind fun l => cond l.isEmpty (Res.ok a_rows) ((foldR (fun (s : List (Int × Int)) (x : Int × Int) => cond (!decide ((Builtin.bitAnd x.2 (a_bits.sum)) = (0 : Int))) (papp s (x.1, x.2)) ((compR (β := (Int × Int)) (fun (bit : Int) => Res.ok (some ((Builtin.bitOr x.1 bit), (Builtin.bitOr x.2 bit)))) a_bits).bind fun l2 => pcatL s l2)) a_rows ([] : List (Int × Int))).bind fun s => (m_least_of s).bind fun z => Res.ok z)

def m_behind_step (a_step : StepT) (a_table : (List (List (Int × Int)))) : Res (List (List (Int × Int))) :=
  cond (is_Full a_step) ((compR (β := (List (Int × Int))) (fun x1 => Res.ok (some ([((0 : Int), (0 : Int))] : List (Int × Int)))) a_table).bind fun l2 => Res.ok l2) ((m_Step_size a_step).ne.bind fun z4 => (guard (rng3ok (0 : Int) (a_table.length : Int) z4) ()).bind fun _ => (foldR (fun (s5 : (List (List (Int × Int)))) x6 => (m_Step_size a_step).ne.bind fun z9 => (guard (small62 x6 ∧ small62 (x6 + ((cutD a_table (some x6) (some (x6 + z9))).length : Int))) ()).bind fun _ => (compR (β := Int) (fun x10 => (pshl (1 : Int) x10).bind fun z11 => Res.ok (some z11)) (rangeL x6 (Int.toNat ((x6 + ((cutD a_table (some x6) (some (x6 + z9))).length : Int)) - x6)))).bind fun l12 => (cond (is_Keep a_step) ((pflat (cutD a_table (some x6) (some (x6 + z9)))).bind fun l14 => (m_least_of l14).bind fun z15 => (compR (β := (List (Int × Int))) (fun x16 => Res.ok (some z15)) (cutD a_table (some x6) (some (x6 + z9)))).bind fun l17 => (pcatL s5 l17).bind fun z18 => Res.ok z18) ((cond (is_Dig a_step) ((compR (β := (List (Int × Int))) (fun x23 => (m_dug x23 l12).bind fun z24 => Res.ok (some z24)) (cutD a_table (some x6) (some (x6 + z9)))).bind fun l25 => (pcatL s5 l25).bind fun z26 => Res.ok z26) ((compR (β := (List (Int × Int))) (fun x29 => (compR (β := (Int × Int)) (fun x30 => Res.ok (some (x30, x30))) l12).bind fun l31 => Res.ok (some l31)) (cutD a_table (some x6) (some (x6 + z9)))).bind fun l32 => (pcatL s5 l32).bind fun z33 => Res.ok z33)).bind fun (s22 : (List (List (Int × Int)))) => Res.ok s22)).bind fun (s13 : (List (List (Int × Int)))) => Res.ok s13) (rangeC (0 : Int) z4 (Int.toNat (((a_table.length : Int) - (0 : Int) + z4 - 1) / z4))) ([] : List (List (Int × Int)))).bind fun s5 => Res.ok s5)

def m_reason_table (a_script : (List StepT)) : Res (List (List (Int × Int))) :=
  (m_Script_period a_script).ne.bind fun z1 => (guard (small62 z1) ()).bind fun _ => (compR (β := (List (Int × Int))) (fun x2 => (pshl (1 : Int) x2).bind fun z3 => Res.ok (some ([(z3, (0 : Int))] : List (Int × Int)))) (rangeL 0 (Int.toNat z1))).bind fun l4 => (foldR (fun (s5 : (List (List (Int × Int)))) x6 => (m_behind_step x6 s5).bind fun z9 => Res.ok z9) a_script l4).bind fun s5 => Res.ok s5

def m_moved_table (a_script : (List StepT)) (a_length : Int) : Res (List (List (Int × Int))) :=
  (m_reason_table a_script).bind fun z1 => (guard (rng3ok (0 : Int) a_length (z1.length : Int)) ()).bind fun _ => (foldR (fun (s2 : (List (List (Int × Int)))) x3 => (compR (β := (List (Int × Int))) (fun x6 => (compR (β := (Int × Int)) (fun x7 => (pshl x7.1 x3).bind fun z8 => (pshl x7.2 x3).bind fun z9 => Res.ok (some (z8, z9))) x6).bind fun l10 => Res.ok (some l10)) z1).bind fun l11 => (pcatL s2 l11).bind fun z12 => Res.ok z12) (rangeC (0 : Int) (z1.length : Int) (Int.toNat ((a_length - (0 : Int) + (z1.length : Int) - 1) / (z1.length : Int)))) ([] : List (List (Int × Int)))).bind fun s2 => Res.ok s2

def m_is_held (a_rows : (List (Int × Int))) (a_other : (Int × Int)) : Res Bool :=
  (forR (ρ := Bool) (fun (s1 : Unit) x2 => (m_holds_in x2 a_other).bind fun z5 => cond z5 (Res.ok (Ctl.rt true)) (Res.ok (Ctl.nx ()))) a_rows ()).bind (Ctl.fin (fun s1 => Res.ok false) (fun r => Res.ok r))

def m_put_down (a_row : (Int × Int)) (a_cell : Int) (a_length : Int) : Res Str :=
  (guard (small62 a_length) ()).bind fun _ => (compR (β := Int) (fun x1 => (pshr a_row.1 x1).bind fun z2 => (pshr a_row.2 x1).bind fun z3 => Res.ok (some ((Builtin.bitAnd z2 (1 : Int)) + (Builtin.bitAnd z3 (1 : Int))))) (rangeL 0 (Int.toNat a_length))).bind fun l4 => (guard (small62 a_length) ()).bind fun _ => (compR (β := Int) (fun x5 => (orR ((pix l4 x5).bind fun z6 => Res.ok (decide ((0 : Int) < z6))) (Res.ok (decide (x5 = a_cell)))).bind fun t7 => cond t7 (Res.ok (some x5)) (Res.ok none)) (rangeL 0 (Int.toNat a_length))).bind fun l8 => (pmax l8).bind fun z9 => (compR (β := Nat) (fun x10 => (pixS (".0a" : Str) x10).bind fun z11 => Res.ok (some z11)) (cutD l4 none (some (z9 + (1 : Int))))).bind fun l12 => (pjoin ("" : Str) (l12.map chS)).bind fun z13 => (m_File_make z13).bind fun z14 => Res.ok z14

def m_more_of (a_one : (List StepT)) (a_other : (List StepT)) : Res (Option Str) :=
  (m_Script_period a_one).ne.bind fun z1 => (m_Script_period a_other).ne.bind fun z2 => (m_multiple_of ([z1, z2] : List Int)).bind fun z3 => (m_moved_table a_other z3).bind fun z4 => (m_moved_table a_one z3).bind fun z5 => (forR (ρ := (Option Str)) (fun (s6 : Unit) x7 => (forR (ρ := (Option Str)) (fun (s10 : Unit) x11 => (pix z4 x7.1).bind fun z14 => (m_is_held z14 x11).bind fun z15 => cond z15 (Res.ok (Ctl.nx ())) ((m_put_down x11 x7.1 z3).bind fun z16 => Res.ok (Ctl.rt (some z16)))) x7.2 ()).bind (Ctl.fin (fun s10 => Res.ok (Ctl.nx ())) (fun r => Res.ok (Ctl.rt r)))) (enumL z5) ()).bind (Ctl.fin (fun s6 => Res.ok none) (fun r => Res.ok r))

def m_parting_of (a_one : (List StepT)) (a_other : (List StepT)) : Res (Option Str) :=
  (m_more_of a_one a_other).bind fun z1 => (cond (z1.isNone) ((m_more_of a_other a_one).bind fun z2 => Res.ok z2) (Res.ok z1)).bind fun z3 => Res.ok z3

def m_alike (a_one : (List StepT)) (a_other : (List StepT)) : Res Bool :=
  (m_check_two a_one a_other).bind fun z1 => (m_parting_of a_one a_other).bind fun z2 => Res.ok (z2.isNone)

def m_never_more (a_one : (List StepT)) (a_other : (List StepT)) : Res Bool :=
  (m_check_two a_one a_other).bind fun z1 => (m_more_of a_one a_other).bind fun z2 => Res.ok (z2.isNone)

def m_parting (a_one : (List StepT)) (a_other : (List StepT)) : Res (Option Str) :=
  (m_check_two a_one a_other).bind fun z1 => (m_parting_of a_one a_other).bind fun z2 => Res.ok z2

def m_more_file (a_one : (List StepT)) (a_other : (List StepT)) : Res (Option Str) :=
  (m_check_two a_one a_other).bind fun z1 => (m_more_of a_one a_other).bind fun z2 => Res.ok z2

def m_Script_add (a_self : (List StepT)) (a_other : (List StepT)) : Res (List StepT) :=
  (pcatL a_self a_other).bind fun z1 => (m_Script_make (some z1)).bind fun z2 => Res.ok z2

def m_exchangeable (a_one : (List StepT)) (a_other : (List StepT)) : Res Bool :=
  (m_check_two a_one a_other).bind fun z1 => (m_Script_add a_one a_other).ne.bind fun z2 => (m_Script_add a_other a_one).ne.bind fun z3 => (m_parting_of z2 z3).bind fun z4 => Res.ok (z4.isNone)

def m_cells_of (a_bits : Int) (a_first : Int) (a_period : Int) : Res (List Int) :=
  (guard (small62 a_period) ()).bind fun _ => (compR (β := Int) (fun x1 => (pshr a_bits x1).bind fun z2 => cond (decide ((Builtin.bitAnd z2 (1 : Int)) = (1 : Int))) (Res.ok (some (a_first + x1))) (Res.ok none)) (rangeL 0 (Int.toNat a_period))).bind fun l3 => Res.ok l3

def m_reasons (a_script : (List StepT)) (a_cell : Int) : Res (List ((List Int) × (List Int))) :=
  (m_check_script a_script).bind fun z1 => (m_check_least a_cell (0 : Int)).bind fun z2 => (m_Script_period a_script).ne.bind fun z3 => (pdiv a_cell z3).bind fun z4 => (pmul z4 z3).bind fun z5 => (m_reason_table a_script).bind fun z6 => (pix z6 (a_cell - z5)).bind fun z7 => (compR (β := ((List Int) × (List Int))) (fun x8 => (m_cells_of x8.2 z5 z3).bind fun z9 => (m_cells_of (x8.1 - x8.2) z5 z3).bind fun z10 => Res.ok (some (z9, z10))) z7).bind fun l11 => (psrtD (py2 (pyL pyI) (pyL pyI)) l11).bind fun z12 => Res.ok z12

def m_are_sizes (a_value : (List Int)) : Res Bool :=
  (andR (Res.ok true) ((compR (β := Int) (fun x1 => (orR (notR ((m_is_whole x1).bind fun z2 => Res.ok z2)) (Res.ok (decide (x1 < (1 : Int))))).bind fun t3 => cond t3 (Res.ok (some x1)) (Res.ok none)) a_value).bind fun l4 => Res.ok (l4.isEmpty))).bind fun z5 => Res.ok z5

def m_widened (a_stretch : (Int × Int)) (a_size : Int) : Res (Int × Int) :=
  (pdiv a_stretch.1 a_size).bind fun z1 => (pmul z1 a_size).bind fun z2 => (pdiv ((a_stretch.2 + a_size) - (1 : Int)) a_size).bind fun z3 => (pmul z3 a_size).bind fun z4 => Res.ok (z2, z4)

def m_spread (a_sizes : (List Int)) (a_cell : Int) : Res (Int × Int) :=
  (m_are_sizes a_sizes).bind fun z1 => cond z1 ((m_check_least a_cell (0 : Int)).bind fun z3 => (foldR (fun (s4 : (Int × Int)) x5 => (m_widened s4 x5).bind fun z8 => Res.ok z8) a_sizes (a_cell, (a_cell + (1 : Int)))).bind fun s4 => Res.ok s4) (Res.err ⟨.list, (Any.lst (a_sizes.map Any.int))⟩)

def m_rounds_spread (a_one : Int) (a_other : Int) (a_rounds : Int) (a_cell : Int) : Res (Int × Int) :=
  (m_check_least a_one (1 : Int)).bind fun z1 => (m_check_least a_other (1 : Int)).bind fun z2 => (m_check_least a_rounds (0 : Int)).bind fun z3 => (m_check_least a_cell (0 : Int)).bind fun z4 => cond (decide (a_rounds = (0 : Int))) (Res.ok (a_cell, (a_cell + (1 : Int)))) ((m_widened (a_cell, (a_cell + (1 : Int))) a_one).bind fun z6 => (cond (!decide ((max a_one a_other) = a_one)) ((m_widened z6 a_other).bind fun z8 => Res.ok z8) (Res.ok z6)).bind fun (s7 : (Int × Int)) => (m_divisor_of a_one a_other).bind fun z12 => (pdiv (min a_one a_other) z12).bind fun z13 => (pdiv s7.1 (max a_one a_other)).bind fun z14 => (pdiv s7.2 (max a_one a_other)).bind fun z15 => (pdiv z14 z13).bind fun z16 => (pmul z16 z13).bind fun z17 => (pdiv ((z15 + z13) - (1 : Int)) z13).bind fun z18 => (pmul z18 z13).bind fun z19 => (pmul (max ((z14 - a_rounds) + (1 : Int)) z17) (max a_one a_other)).bind fun z20 => (pmul (min ((z15 + a_rounds) - (1 : Int)) z19) (max a_one a_other)).bind fun z21 => (m_widened (z20, z21) a_other).bind fun z22 => Res.ok z22)

def m_settles (a_one : Int) (a_other : Int) : Res Int :=
  (m_check_least a_one (1 : Int)).bind fun z1 => (m_check_least a_other (1 : Int)).bind fun z2 => (m_divisor_of a_one a_other).bind fun z3 => (pdiv (min a_one a_other) z3).bind fun z4 => Res.ok z4

def m_law_rest_right (a_x : (List StepT)) (a_y : (List StepT)) (a_u : Int) (a_v : Int) : Res Bool :=
  (m_alike a_x a_y).bind fun z1 => (m_alike a_x a_y).bind fun z2 => cond (!decide (z1 = z2)) (Res.ok false) ((m_never_more a_x a_y).bind fun z4 => (m_never_more a_x a_y).bind fun z5 => cond (!decide (z4 = z5)) (Res.ok false) ((m_parting a_x a_y).bind fun z7 => (m_parting a_x a_y).bind fun z8 => (peqO m_File_eq z7 z8).ne.bind fun z9 => cond (!z9) (Res.ok false) ((m_more_file a_x a_y).bind fun z11 => (m_more_file a_x a_y).bind fun z12 => (peqO m_File_eq z11 z12).ne.bind fun z13 => cond (!z13) (Res.ok false) ((m_exchangeable a_x a_y).bind fun z15 => (m_exchangeable a_x a_y).bind fun z16 => cond (!decide (z15 = z16)) (Res.ok false) ((m_reasons a_x a_u).bind fun z18 => (m_reasons a_x a_u).bind fun z19 => (peq (pyL (py2 (pyL pyI) (pyL pyI))).ok z18 z19).bind fun z20 => cond (!z20) (Res.ok false) ((m_spread ([(2 : Int), (a_v + (1 : Int))] : List Int) a_u).bind fun z22 => (m_spread ([(2 : Int), (a_v + (1 : Int))] : List Int) a_u).bind fun z23 => (peq (py2 pyI pyI).ok z22 z23).bind fun z24 => cond (!z24) (Res.ok false) ((m_rounds_spread (3 : Int) (7 : Int) a_v a_u).bind fun z26 => (andR ((m_rounds_spread (3 : Int) (7 : Int) a_v a_u).bind fun z27 => (peq (py2 pyI pyI).ok z26 z27).bind fun z28 => Res.ok z28) ((m_settles (6 : Int) (9 : Int)).bind fun z29 => (m_settles (6 : Int) (9 : Int)).bind fun z30 => Res.ok (decide (z29 = z30)))).bind fun z31 => Res.ok z31)))))))

def m_law (a_script : (List Int)) : Res Bool :=
  (forR (ρ := Bool) (fun (s1 : Unit) x2 => (pslS ("0.a..b.0." : Str) (some ((((cutD a_script (some x2) (some (x2 + (1 : Int)))).sum) + ((7 : Int) * x2)) % (3 : Int))) none).bind fun z5 => (pslS ("...." : Str) none (some ((((cutD a_script (some x2) (some (x2 + (1 : Int)))).sum) + ((7 : Int) * x2)) % (3 : Int)))).bind fun z6 => (pcat z5 z6).bind fun z7 => (m_Keep_make (2 : Int)).bind fun z8 => (m_Dig_make (4 : Int)).bind fun z9 => (m_Lean_make (2 : Int)).bind fun z10 => (pix ([(StepT.dig z9), (StepT.lean z10), StepT.full] : List StepT) (((((cutD a_script (some x2) (some (x2 + (1 : Int)))).sum) + ((7 : Int) * x2)) % (4 : Int)) % (3 : Int))).bind fun z11 => (m_Script_make (some ([(StepT.keep z8), z11] : List StepT))).bind fun z12 => (m_Keep_make (4 : Int)).bind fun z13 => (m_Dig_make (2 : Int)).bind fun z14 => (m_Lean_make (4 : Int)).bind fun z15 => (m_Keep_make (1 : Int)).bind fun z16 => (pix ([(StepT.dig z14), (StepT.lean z15), (StepT.keep z16)] : List StepT) ((((((cutD a_script (some x2) (some (x2 + (1 : Int)))).sum) + ((7 : Int) * x2)) / (4 : Int)) % (4 : Int)) % (3 : Int))).bind fun z17 => (m_Script_make (some ([(StepT.keep z13), z17] : List StepT))).bind fun z18 => (m_law_files_right z7 ((((cutD a_script (some x2) (some (x2 + (1 : Int)))).sum) + ((7 : Int) * x2)) % (4 : Int)) (((((cutD a_script (some x2) (some (x2 + (1 : Int)))).sum) + ((7 : Int) * x2)) / (4 : Int)) % (4 : Int))).bind fun z19 => cond z19 ((m_law_rest_right z12 z18 ((((cutD a_script (some x2) (some (x2 + (1 : Int)))).sum) + ((7 : Int) * x2)) % (4 : Int)) (((((cutD a_script (some x2) (some (x2 + (1 : Int)))).sum) + ((7 : Int) * x2)) / (4 : Int)) % (4 : Int))).bind fun z21 => cond z21 (Res.ok (Ctl.nx ())) (Res.ok (Ctl.rt false))) (Res.ok (Ctl.rt false))) (rangeL 0 (Int.toNat (4 : Int))) ()).bind (Ctl.fin (fun s1 => Res.ok true) (fun r => Res.ok r))
end Kh

set_option Elab.async false
set_option linter.all false
set_option maxRecDepth 100000
set_option maxHeartbeats 4000000
namespace Kh
open PySem PySem.Spec L2
open PySem.W (Frag)
abbrev PR : Program := PySem.Challenge.rw_keptholes_k40_arguments_by_name.prog
section
variable {w : World} {K : Frag} {mg : Str → Option Value} {base : Heap}
def clR (R : Prg K mg) : OK → Addr × List Str
  | .file => (R.C_File, ["row"])
  | .full => (R.C_Full, [])
  | .keep => (R.C_Keep, ["wide"])
  | .lean => (R.C_Lean, ["wide"])
  | .dig => (R.C_Dig, ["wide"])
  | .script => (R.C_Script, ["rows"])
  | _ => (0, [])
def exE (R : Prg K mg) : Er → Exn
  | ⟨.file, v⟩ => ⟨R.C_InvalidFile, ["value"], [anyD (clR R) v]⟩
  | ⟨.number, v⟩ => ⟨R.C_InvalidNumber, ["value"], [anyD (clR R) v]⟩
  | ⟨.script, v⟩ => ⟨R.C_InvalidScript, ["value"], [anyD (clR R) v]⟩
  | ⟨.list, v⟩ => ⟨R.C_InvalidList, ["value"], [anyD (clR R) v]⟩
  | _ => ⟨0, [], []⟩
/-! plain words -/
theorem ln {ds : List Dat} (h : Nat.ble ds.length 1000 = true := by rfl) : ds.length ≤ sizeLine := Nat.le_trans (Nat.le_of_ble_eq_true h) (by decide)
/-- the script: a list of at most 63 whole numbers -/
def spLaw : Spc := fun ds M P _ => ∃ ns : List Int, ns.length ≤ 63 ∧ ds = [.scr ns] ∧ M = [] ∧ P (.bl true) []
theorem law_sp {K : Frag} {H : Hp} {a : Addr} {ns : List Int} (hl : ns.length ≤ 63) (hS : SqL K H a (ns.map V.int)) : toSp K spLaw [.ref a] H (fun v _ => v = .bl true) fun _ _ _ => False := law_spS hS ⟨ns, hl, rfl, rfl, rfl⟩
abbrev fileD (R : Prg K mg) (z : Str) : Dat := .obj R.C_File ["row"] [.str z]
abbrev fullD (R : Prg K mg) (_ : Unit) : Dat := .obj R.C_Full [] []
abbrev keepD (R : Prg K mg) (n : Int) : Dat := .obj R.C_Keep ["wide"] [.int n]
abbrev leanD (R : Prg K mg) (n : Int) : Dat := .obj R.C_Lean ["wide"] [.int n]
abbrev digD (R : Prg K mg) (n : Int) : Dat := .obj R.C_Dig ["wide"] [.int n]
abbrev stepD (R : Prg K mg) : StepT → Dat
  | .full => fullD R ()
  | .keep n => keepD R n
  | .lean n => leanD R n
  | .dig n => digD R n
theorem stepA_D (R : Prg K mg) (s : StepT) : anyD (clR R) (stepA s) = stepD R s := by
  cases s <;> simp [stepA, anyD, anyDL, stepD, clR]
theorem stepA_comp (R : Prg K mg) : anyD (clR R) ∘ stepA = stepD R := funext fun s => stepA_D R s
theorem isStep (R : Prg K mg) (s : StepT) : ∃ t, (∀ M, TyD K M (stepD R s) t) ∧ PySem.W.kitOne K t (.ref R.C_Step) = some true := by
  cases s with
  | full => exact ⟨_, fun M => .obj R.L_Full, R.s_Full_Step⟩
  | keep n => exact ⟨_, fun M => .obj R.L_Keep, R.s_Keep_Step⟩
  | lean n => exact ⟨_, fun M => .obj R.L_Lean, R.s_Lean_Step⟩
  | dig n => exact ⟨_, fun M => .obj R.L_Dig, R.s_Dig_Step⟩
theorem isin_Dig (R : Prg K mg) (s : StepT) : ∃ t, (∀ M, TyD K M (stepD R s) t) ∧ PySem.W.kitOne K t (.ref R.C_Dig) = some (is_Dig s) := by
  cases s with
  | full => exact ⟨_, fun M => .obj R.L_Full, R.s_Full_Dig⟩
  | keep n => exact ⟨_, fun M => .obj R.L_Keep, R.s_Keep_Dig⟩
  | lean n => exact ⟨_, fun M => .obj R.L_Lean, R.s_Lean_Dig⟩
  | dig n => exact ⟨_, fun M => .obj R.L_Dig, R.s_Dig_Dig⟩
theorem isin_Full (R : Prg K mg) (s : StepT) : ∃ t, (∀ M, TyD K M (stepD R s) t) ∧ PySem.W.kitOne K t (.ref R.C_Full) = some (is_Full s) := by
  cases s with
  | full => exact ⟨_, fun M => .obj R.L_Full, R.s_Full_Full⟩
  | keep n => exact ⟨_, fun M => .obj R.L_Keep, R.s_Keep_Full⟩
  | lean n => exact ⟨_, fun M => .obj R.L_Lean, R.s_Lean_Full⟩
  | dig n => exact ⟨_, fun M => .obj R.L_Dig, R.s_Dig_Full⟩
theorem isin_Keep (R : Prg K mg) (s : StepT) : ∃ t, (∀ M, TyD K M (stepD R s) t) ∧ PySem.W.kitOne K t (.ref R.C_Keep) = some (is_Keep s) := by
  cases s with
  | full => exact ⟨_, fun M => .obj R.L_Full, R.s_Full_Keep⟩
  | keep n => exact ⟨_, fun M => .obj R.L_Keep, R.s_Keep_Keep⟩
  | lean n => exact ⟨_, fun M => .obj R.L_Lean, R.s_Lean_Keep⟩
  | dig n => exact ⟨_, fun M => .obj R.L_Dig, R.s_Dig_Keep⟩
theorem isin_Lean (R : Prg K mg) (s : StepT) : ∃ t, (∀ M, TyD K M (stepD R s) t) ∧ PySem.W.kitOne K t (.ref R.C_Lean) = some (is_Lean s) := by
  cases s with
  | full => exact ⟨_, fun M => .obj R.L_Full, R.s_Full_Lean⟩
  | keep n => exact ⟨_, fun M => .obj R.L_Keep, R.s_Keep_Lean⟩
  | lean n => exact ⟨_, fun M => .obj R.L_Lean, R.s_Lean_Lean⟩
  | dig n => exact ⟨_, fun M => .obj R.L_Dig, R.s_Dig_Lean⟩
theorem wideD (R : Prg K mg) (t : StepT) {K2 : Frag} {M : Mem} {P : Dat → Prop} {Q : Int → Prop} {E1 : Er → Prop} (h : (m_Step_wide t).Out Q E1) (hk : ∀ n, Q n → P (.int n)) (hK : K2 = K := by rfl) : ∃ z, FldI K2 "wide" M (stepD R t) z ∧ P z := by
  subst hK
  cases t with
  | full => exact h.elim
  | keep n => exact ⟨_, ⟨_, R.L_Keep.cl, R.A_Keep_wide, .inl ⟨_, _, rfl, rfl, rfl⟩⟩, hk n h⟩
  | lean n => exact ⟨_, ⟨_, R.L_Lean.cl, R.A_Lean_wide, .inl ⟨_, _, rfl, rfl, rfl⟩⟩, hk n h⟩
  | dig n => exact ⟨_, ⟨_, R.L_Dig.cl, R.A_Dig_wide, .inl ⟨_, _, rfl, rfl, rfl⟩⟩, hk n h⟩
abbrev scriptD (R : Prg K mg) (xs : List StepT) : Dat := .obj R.C_Script ["rows"] [vtpD (stepD R) xs]

def S_is_whole (R : Prg K mg) : Spc := fun ds M P E => ∃ (a_value : Int), ds = [(.int a_value)] ∧ (m_is_whole a_value).Out (fun r => P (.bl r) M) (fun x => E (exE R x) M)
theorem ok_is_whole (R : Prg K mg) : FnD PR w K mg base 1 R.f_is_whole R.d_is_whole P_is_whole (S_is_whole R) := by
  refine fn_d false R.F_is_whole sc_is_whole (fun h => nomatch h) (fun ds M P E ⟨_, e, _⟩ => by rw [e]; rfl) fun cdv A outer s H E hr ds M Pd PE h => ?_
  obtain ⟨a_value, rfl, h⟩ := h
  have hu := hr.units
  refine WS.ends ?_
  exact ws_ret <| exJQ Dat.bl (ob h) (fun _ h => exA h (fun _ h => ex_callB R.n_isinstance PyProof.Rows.Boot.«isinstance» <| ea_cons <| ex_var ⟨rfl, rfl⟩ <| ea_cons <| ex_gty R.n_int PyProof.Rows.Boot.«int» <| ea_nil <| c_isi (k := true) (.ty _) .int (by rfl) <| ⟨rfl, true, rfl, h⟩) (fun h => ex_and1 <| ex_not <| ex_callB R.n_isinstance PyProof.Rows.Boot.«isinstance» <| ea_cons <| ex_var ⟨rfl, rfl⟩ <| ea_cons <| ex_gty R.n_bool PyProof.Rows.Boot.«bool» <| ea_nil <| c_isi (k := false) (.ty _) .int (by rfl) <| ⟨_, rfl, ⟨rfl, (!false), rfl, h⟩⟩)) fun z1 h => (dN [] h)

def S_check_least (R : Prg K mg) : Spc := fun ds M P E => ∃ (a_value : Int) (a_least : Int), ds = [(.int a_value), (.int a_least)] ∧ (m_check_least a_value a_least).Out (fun r => P .non M) (fun x => E (exE R x) M)
theorem ok_check_least (R : Prg K mg) : FnD PR w K mg base 2 R.f_check_least R.d_check_least P_check_least (S_check_least R) := by
  refine fn_d false R.F_check_least sc_check_least (fun h => nomatch h) (fun ds M P E ⟨_, _, e, _⟩ => by rw [e]; rfl) fun cdv A outer s H E hr ds M Pd PE h => ?_
  obtain ⟨a_value, a_least, rfl, h⟩ := h
  have hu := hr.units
  refine WS.ends ?_
  refine ws_if <| et_w <| ew_or <| et_not <| et_val <| ex_callF (ok_is_whole R) (hr.mono (by decide)) R.m_is_whole R.F_is_whole R.b_is_whole <| ea_cons <| ex_var ⟨rfl, rfl⟩ <| ea_nil <| ⟨a_value, rfl, outU (ob h) (fun z1 h => ⟨_, rfl, cifN h (fun h => ew_or1 <| et_cmp <| ex_var ⟨rfl, rfl⟩ <| ex_var ⟨rfl, rfl⟩ <| o_lt <| ⟨_, rfl, cif h (fun h => ?g3) (fun h => ?g4)⟩) (fun h => ⟨fun _ => ?g2, fun z => nomatch z⟩)⟩) (fun _ h => dX [] h)⟩
  case g2 =>
    exact ws_raise rfl R.S_InvalidNumber R.mc_InvalidNumber R.n_super hr <| ex_asA <| ex_var ⟨rfl, rfl⟩ <| ⟨anyD (clR R) (Any.int a_value), (by first | rfl | (simp only [anyD, anyDL, anyDL_map, List.map_map]; done) | (simp only [anyD, anyDL, anyDL_map, List.map_map]; rfl) | (simp only [anyD, anyDL, anyDL_map, List.map_map, stepA_comp, stepA_D]; rfl) | (simp only [anyD, anyDL, anyDL_map, List.map_map, stepA_comp, stepA_D]; done)), (dX [] h)⟩
  case g3 =>
    exact ws_raise rfl R.S_InvalidNumber R.mc_InvalidNumber R.n_super hr <| ex_asA <| ex_var ⟨rfl, rfl⟩ <| ⟨anyD (clR R) (Any.int a_value), (by first | rfl | (simp only [anyD, anyDL, anyDL_map, List.map_map]; done) | (simp only [anyD, anyDL, anyDL_map, List.map_map]; rfl) | (simp only [anyD, anyDL, anyDL_map, List.map_map, stepA_comp, stepA_D]; rfl) | (simp only [anyD, anyDL, anyDL_map, List.map_map, stepA_comp, stepA_D]; done)), (dX [] h)⟩
  case g4 =>
    refine ws_nil ?_
    exact ws_nil (dN [] h)

def S_Keep_init (R : Prg K mg) : Spc := fun ds M P E => ∃ q dx n M0, ds = [.raw (.ref q), .int n] ∧ M = (q, .ins R.C_Keep dx []) :: M0 ∧ (m_Keep_make n).Out (fun r => P .non ((q, .ins R.C_Keep dx [("wide", .int r)]) :: M0)) (fun x => E (exE R x) M)
theorem ok_Keep_init (R : Prg K mg) : FnD PR w K mg base 3 R.f_Keep_init R.d_Keep_init P_Keep_init (S_Keep_init R) := by
  refine fn_d false R.F_Keep_init sc_Keep_init (fun h => nomatch h) (fun ds M P E ⟨_, _, _, _, e, _⟩ => by rw [e]; rfl) fun cdv A outer s H E hr ds M Pd PE h => ?_
  obtain ⟨q, dx, n, M0, rfl, rfl, h⟩ := h
  refine ws_expr <| ex_callF (ok_check_least R) (hr.mono (by decide)) R.m_check_least R.F_check_least R.b_check_least <| ea_cons <| ex_var ⟨rfl, rfl⟩ <| ea_cons <| ex_int <| ea_nil ⟨n, 1, rfl, outU (ob h) (fun _ h => ?_) (fun _ h => h)⟩
  exact ws_fld <| ex_var ⟨rfl, rfl⟩ <| ex_var ⟨rfl, rfl⟩ ⟨q, _, dx, [], rfl, List.mem_cons_self, R.L_Keep.cl, R.A_Keep_wide, by decide, ws_nil (by have h2 : Pd .non ((q, .ins R.C_Keep dx [("wide", .int n)]) :: M0) := h; show Pd .non _; simpa [putC, putD] using h2)⟩
theorem mk_Keep {R : Prg K mg} {q dx : Addr} {n : Int} {M : Mem} {P : PK'} {E : XKx} {E1 : Er → Prop} {Q : Int → Prop} (h : (m_Keep_make n).Out Q E1) (hk : ∀ r, Q r → P (keepD R r) M) (hx : ∀ x, E1 x → E (exE R x) ((q, .ins R.C_Keep dx []) :: M)) :
    AP (S_Keep_init R) [.raw (.ref q), .int n] ((q, .ins R.C_Keep dx []) :: M) (fun d M2 => d = .non ∧ MadeP P q M2) E :=
  ap_all ⟨q, dx, n, M, rfl, rfl, out_mono h (fun r hr => .mk ⟨rfl, made_ok (fs := [("wide", .int r)]) (hk r hr)⟩) fun x h => .mk (hx x h)⟩

def S_Dig_init (R : Prg K mg) : Spc := fun ds M P E => ∃ q dx n M0, ds = [.raw (.ref q), .int n] ∧ M = (q, .ins R.C_Dig dx []) :: M0 ∧ (m_Dig_make n).Out (fun r => P .non ((q, .ins R.C_Dig dx [("wide", .int r)]) :: M0)) (fun x => E (exE R x) M)
theorem ok_Dig_init (R : Prg K mg) : FnD PR w K mg base 3 R.f_Dig_init R.d_Dig_init P_Dig_init (S_Dig_init R) := by
  refine fn_d false R.F_Dig_init sc_Dig_init (fun h => nomatch h) (fun ds M P E ⟨_, _, _, _, e, _⟩ => by rw [e]; rfl) fun cdv A outer s H E hr ds M Pd PE h => ?_
  obtain ⟨q, dx, n, M0, rfl, rfl, h⟩ := h
  refine ws_expr <| ex_callF (ok_check_least R) (hr.mono (by decide)) R.m_check_least R.F_check_least R.b_check_least <| ea_cons <| ex_var ⟨rfl, rfl⟩ <| ea_cons <| ex_int <| ea_nil ⟨n, 1, rfl, outU (ob h) (fun _ h => ?_) (fun _ h => h)⟩
  exact ws_fld <| ex_var ⟨rfl, rfl⟩ <| ex_var ⟨rfl, rfl⟩ ⟨q, _, dx, [], rfl, List.mem_cons_self, R.L_Dig.cl, R.A_Dig_wide, by decide, ws_nil (by have h2 : Pd .non ((q, .ins R.C_Dig dx [("wide", .int n)]) :: M0) := h; show Pd .non _; simpa [putC, putD] using h2)⟩
theorem mk_Dig {R : Prg K mg} {q dx : Addr} {n : Int} {M : Mem} {P : PK'} {E : XKx} {E1 : Er → Prop} {Q : Int → Prop} (h : (m_Dig_make n).Out Q E1) (hk : ∀ r, Q r → P (digD R r) M) (hx : ∀ x, E1 x → E (exE R x) ((q, .ins R.C_Dig dx []) :: M)) :
    AP (S_Dig_init R) [.raw (.ref q), .int n] ((q, .ins R.C_Dig dx []) :: M) (fun d M2 => d = .non ∧ MadeP P q M2) E :=
  ap_all ⟨q, dx, n, M, rfl, rfl, out_mono h (fun r hr => .mk ⟨rfl, made_ok (fs := [("wide", .int r)]) (hk r hr)⟩) fun x h => .mk (hx x h)⟩

def S_Lean_init (R : Prg K mg) : Spc := fun ds M P E => ∃ q dx n M0, ds = [.raw (.ref q), .int n] ∧ M = (q, .ins R.C_Lean dx []) :: M0 ∧ (m_Lean_make n).Out (fun r => P .non ((q, .ins R.C_Lean dx [("wide", .int r)]) :: M0)) (fun x => E (exE R x) M)
theorem ok_Lean_init (R : Prg K mg) : FnD PR w K mg base 3 R.f_Lean_init R.d_Lean_init P_Lean_init (S_Lean_init R) := by
  refine fn_d false R.F_Lean_init sc_Lean_init (fun h => nomatch h) (fun ds M P E ⟨_, _, _, _, e, _⟩ => by rw [e]; rfl) fun cdv A outer s H E hr ds M Pd PE h => ?_
  obtain ⟨q, dx, n, M0, rfl, rfl, h⟩ := h
  refine ws_expr <| ex_callF (ok_check_least R) (hr.mono (by decide)) R.m_check_least R.F_check_least R.b_check_least <| ea_cons <| ex_var ⟨rfl, rfl⟩ <| ea_cons <| ex_int <| ea_nil ⟨n, 1, rfl, outU (ob h) (fun _ h => ?_) (fun _ h => h)⟩
  exact ws_fld <| ex_var ⟨rfl, rfl⟩ <| ex_var ⟨rfl, rfl⟩ ⟨q, _, dx, [], rfl, List.mem_cons_self, R.L_Lean.cl, R.A_Lean_wide, by decide, ws_nil (by have h2 : Pd .non ((q, .ins R.C_Lean dx [("wide", .int n)]) :: M0) := h; show Pd .non _; simpa [putC, putD] using h2)⟩
theorem mk_Lean {R : Prg K mg} {q dx : Addr} {n : Int} {M : Mem} {P : PK'} {E : XKx} {E1 : Er → Prop} {Q : Int → Prop} (h : (m_Lean_make n).Out Q E1) (hk : ∀ r, Q r → P (leanD R r) M) (hx : ∀ x, E1 x → E (exE R x) ((q, .ins R.C_Lean dx []) :: M)) :
    AP (S_Lean_init R) [.raw (.ref q), .int n] ((q, .ins R.C_Lean dx []) :: M) (fun d M2 => d = .non ∧ MadeP P q M2) E :=
  ap_all ⟨q, dx, n, M, rfl, rfl, out_mono h (fun r hr => .mk ⟨rfl, made_ok (fs := [("wide", .int r)]) (hk r hr)⟩) fun x h => .mk (hx x h)⟩

def S_are_steps (R : Prg K mg) : Spc := fun ds M P E => ∃ (a_value : (List StepT)), ds = [((lstD (stepD R)) a_value)] ∧ (m_are_steps a_value).Out (fun r => P (.bl r) M) (fun x => E (exE R x) M)
theorem ok_are_steps (R : Prg K mg) : FnD PR w K mg base 1 R.f_are_steps R.d_are_steps P_are_steps (S_are_steps R) := by
  refine fn_d false R.F_are_steps sc_are_steps (fun h => nomatch h) (fun ds M P E ⟨_, e, _⟩ => by rw [e]; rfl) fun cdv A outer s H E hr ds M Pd PE h => ?_
  obtain ⟨a_value, rfl, h⟩ := h
  have hu := hr.units
  refine WS.ends ?_
  exact ws_ret <| exJQ Dat.bl (ob h) (fun _ h => exA h (fun _ h => ex_callB R.n_isinstance PyProof.Rows.Boot.«isinstance» <| ea_cons <| ex_var ⟨rfl, rfl⟩ <| ea_cons <| ex_gty R.n_list PyProof.Rows.Boot.«list» <| ea_nil <| c_isi (k := true) (.ty _) .lst (by rfl) <| ⟨rfl, true, rfl, h⟩) (fun h => ex_and1 <| ex_cmp <| ex_lcT [("step", 1)] <| ei_list <| ex_var ⟨rfl, rfl⟩ <| ⟨_, rfl, compT (stepD R) (stepD R) (xs := a_value) (ob h) trivial (fun x1 _ h s H C cl fp => gc_name  <| fun s H C cl fp => ef_one <| et_not <| et_val <| ex_callB R.n_isinstance PyProof.Rows.Boot.«isinstance» <| ea_cons <| ex_var ⟨rfl, rfl⟩ <| ea_cons <| ex_gref R.mc_Step <| ea_nil <| c_isx (.own _) (isStep R x1) <| ⟨_, rfl, (fun z => absurd z (by decide)), fun _ => ⟨rfl, h⟩⟩) (fun l2 h => ex_lst <| ea_nil ⟨ln, r_eqNilT (stepD R) hu <| ⟨rfl, (l2.isEmpty), rfl, h⟩⟩)⟩)) fun z3 h => (dN [] h)

def S_Script_init (R : Prg K mg) : Spc := fun ds M P E => ∃ q dx o M0, ds = [.raw (.ref q), optD (lstD (stepD R)) o] ∧ M = (q, .ins R.C_Script dx []) :: M0 ∧ (m_Script_make o).Out (fun r => P .non ((q, .ins R.C_Script dx [("rows", vtpD (stepD R) r)]) :: M0)) (fun x => E (exE R x) M)
theorem ok_Script_init (R : Prg K mg) : FnD PR w K mg base 2 R.f_Script_init R.d_Script_init P_Script_init (S_Script_init R) := by
  refine fn_dV false R.F_Script_init sc_Script_init (fun h => nomatch h) (fun ds M P E ⟨_, _, _, _, e, _⟩ => by rw [e]; rfl) fun cdv A outer s H E hr ds M Pd PE h => ?_
  obtain ⟨q, dx, o, M0, rfl, rfl, h⟩ := h
  have h2 : WS (cxOf (L2.CX PR w) PR w K mg base N_Script_init "Script.__init__" (defScope s_Script_init) R.f_Script_init cdv A outer s H E) false (defBody s_Script_init).tail [some (.raw (.ref q)), some (optD (lstD (stepD R)) o), some (lstD (stepD R) (o.getD []))] ((q, .ins R.C_Script dx []) :: M0) (retR Pd PE) := by
    refine ws_if <| et_not <| et_val <| ex_callF (ok_are_steps R) (hr.mono (by decide)) R.m_are_steps R.F_are_steps R.b_are_steps <| ea_cons <| ex_var ⟨rfl, rfl⟩ <| ea_nil ⟨o.getD [], rfl, outU (ob h) (fun b h => ⟨_, rfl, (fun e => ?g2), fun e => ?g1⟩) (fun _ h => h)⟩
    case g1 =>
      refine ws_nil ?_
      exact ws_fld <| ex_callTy R.n_tuple PyProof.Rows.Boot.«tuple» <| ea_cons <| ex_var ⟨rfl, rfl⟩ <| ea_nil <| c_tupT (stepD R) (xs := o.getD []) <| ex_var ⟨rfl, rfl⟩ ⟨q, _, dx, [], rfl, List.mem_cons_self, R.L_Script.cl, R.A_Script_rows, by decide, ws_nil (show Pd .non _ from by simpa [putC, putD] using (gd h).2)⟩
    case g2 => exact absurd (gd h).1 (by simpa using e)
  cases o with
  | none => exact ws_set <| ex_if <| et_cmp <| ex_var ⟨rfl, rfl⟩ <| ex_non <| o_isN (fun u => by simp) ⟨true, rfl, (fun _ => ex_lst <| ea_nil ⟨ln, h2⟩), fun z => nomatch z⟩
  | some xs => exact ws_set <| ex_if <| et_cmp <| ex_var ⟨rfl, rfl⟩ <| ex_non <| o_isN (fun u => by simp [optD]) ⟨false, rfl, (fun z => nomatch z), fun _ => ex_var ⟨rfl, rfl⟩ h2⟩
theorem mk_Script {R : Prg K mg} {q dx : Addr} {o : Option (List StepT)} {M : Mem} {P : PK'} {E : XKx} {E1 : Er → Prop} {Q : List StepT → Prop} (h : (m_Script_make o).Out Q E1) (hk : ∀ r, Q r → P (scriptD R r) M) (hx : ∀ x, E1 x → E (exE R x) ((q, .ins R.C_Script dx []) :: M)) :
    AP (S_Script_init R) [.raw (.ref q), optD (lstD (stepD R)) o] ((q, .ins R.C_Script dx []) :: M) (fun d M2 => d = .non ∧ MadeP P q M2) E :=
  ap_all ⟨q, dx, o, M, rfl, rfl, out_mono h (fun r hr => .mk ⟨rfl, made_ok (fs := [("rows", vtpD (stepD R) r)]) (hk r hr)⟩) fun x h => .mk (hx x h)⟩

def S_are_cells (R : Prg K mg) : Spc := fun ds M P E => ∃ (a_value : Str), ds = [(.str a_value)] ∧ (m_are_cells a_value).Out (fun r => P (.bl r) M) (fun x => E (exE R x) M)
theorem ok_are_cells (R : Prg K mg) : FnD PR w K mg base 1 R.f_are_cells R.d_are_cells P_are_cells (S_are_cells R) := by
  refine fn_d false R.F_are_cells sc_are_cells (fun h => nomatch h) (fun ds M P E ⟨_, e, _⟩ => by rw [e]; rfl) fun cdv A outer s H E hr ds M Pd PE h => ?_
  obtain ⟨a_value, rfl, h⟩ := h
  have hu := hr.units
  refine WS.ends ?_
  exact ws_ret <| exJQ Dat.bl (ob h) (fun _ h => exA h (fun _ h => ex_callB R.n_isinstance PyProof.Rows.Boot.«isinstance» <| ea_cons <| ex_var ⟨rfl, rfl⟩ <| ea_cons <| ex_gty R.n_str PyProof.Rows.Boot.«str» <| ea_nil <| c_isi (k := true) (.ty _) .str (by rfl) <| ⟨rfl, true, rfl, h⟩) (fun h => ex_and1 <| ex_cmp <| ex_lcT [("cell", 1)] <| ei_str <| ex_var ⟨rfl, rfl⟩ <| ⟨a_value, rfl, compT chD chD (xs := (signsL a_value)) (ob h) trivial (fun x1 _ h s H C cl fp => gc_name  <| fun s H C cl fp => ef_one <| et_cmp <| ex_var ⟨rfl, rfl⟩ <| ex_bin <| ex_str <| ex_gstr R.g_SIGNS <| r_cat (ob h) fun z2 h => o_notInS <| ⟨_, rfl, cif h (fun h => fun s H C cl fp => ex_var ⟨rfl, rfl⟩ <| ⟨rfl, x1, rfl, h⟩) (fun h => ⟨rfl, h⟩)⟩) (fun l3 h => ex_lst <| ea_nil ⟨ln, r_eqNilT chD hu <| ⟨rfl, (l3.isEmpty), rfl, h⟩⟩)⟩)) fun z4 h => (dN [] h)

def S_File_init (R : Prg K mg) : Spc := fun ds M P E => ∃ q dx z M0, ds = [.raw (.ref q), .str z] ∧ M = (q, .ins R.C_File dx []) :: M0 ∧ (m_File_make z).Out (fun r => P .non ((q, .ins R.C_File dx [("row", .str r)]) :: M0)) (fun x => E (exE R x) M)
theorem ok_File_init (R : Prg K mg) : FnD PR w K mg base 2 R.f_File_init R.d_File_init P_File_init (S_File_init R) := by
  refine fn_dV false R.F_File_init sc_File_init (fun h => nomatch h) (fun ds M P E ⟨_, _, _, _, e, _⟩ => by rw [e]; rfl) fun cdv A outer s H E hr ds M Pd PE h => ?_
  obtain ⟨q, dx, z, M0, rfl, rfl, h⟩ := h
  refine ws_if <| et_not <| et_val <| ex_callF (ok_are_cells R) (hr.mono (by decide)) R.m_are_cells R.F_are_cells R.b_are_cells <| ea_cons <| ex_var ⟨rfl, rfl⟩ <| ea_nil ⟨z, rfl, outU (ob h) (fun b h => ⟨_, rfl, cifN h (fun h => ?g1) (fun h => ?g2)⟩) (fun _ h => h)⟩
  case g1 =>
    refine ws_nil ?_
    exact ws_fld <| ex_var ⟨rfl, rfl⟩ <| ex_var ⟨rfl, rfl⟩ ⟨q, _, dx, [], rfl, List.mem_cons_self, R.L_File.cl, R.A_File_row, by decide, ws_nil (by have h2 : Pd .non ((q, .ins R.C_File dx [("row", .str z)]) :: M0) := h; show Pd .non _; simpa [putC, putD] using h2)⟩
  case g2 => exact ws_raise rfl R.S_InvalidFile R.mc_InvalidFile R.n_super hr <| ex_var ⟨rfl, rfl⟩ h
theorem mk_File {R : Prg K mg} {q dx : Addr} {z : Str} {M : Mem} {P : PK'} {E : XKx} {E1 : Er → Prop} {Q : Str → Prop} (h : (m_File_make z).Out Q E1) (hk : ∀ r, Q r → P (fileD R r) M) (hx : ∀ x, E1 x → E (exE R x) ((q, .ins R.C_File dx []) :: M)) :
    AP (S_File_init R) [.raw (.ref q), .str z] ((q, .ins R.C_File dx []) :: M) (fun d M2 => d = .non ∧ MadeP P q M2) E :=
  ap_all ⟨q, dx, z, M, rfl, rfl, out_mono h (fun r hr => .mk ⟨rfl, made_ok (fs := [("row", .str r)]) (hk r hr)⟩) fun x h => .mk (hx x h)⟩

def S_File_eq (R : Prg K mg) : Spc := fun ds M P E => ∃ (a_self : Str) (a_other : Str), ds = [((fileD R) a_self), ((fileD R) a_other)] ∧ (m_File_eq a_self a_other).Out (fun r => P (.bl r) M) (fun x => E (exE R x) M)
theorem ok_File_eq (R : Prg K mg) : FnD PR w K mg base 1 R.f_File_eq R.d_File_eq P_File_eq (S_File_eq R) := by
  refine fn_d false R.F_File_eq sc_File_eq (fun h => nomatch h) (fun ds M P E ⟨_, _, e, _⟩ => by rw [e]; rfl) fun cdv A outer s H E hr ds M Pd PE h => ?_
  obtain ⟨a_self, a_other, rfl, h⟩ := h
  have hu := hr.units
  refine WS.ends ?_
  exact ws_ret <| exJQ Dat.bl (ob h) (fun _ h => exA h (fun _ h => ex_callB R.n_isinstance PyProof.Rows.Boot.«isinstance» <| ea_cons <| ex_var ⟨rfl, rfl⟩ <| ea_cons <| ex_gref R.mc_File <| ea_nil <| c_isi (k := true) (.own _) (.obj R.L_File) R.s_File_File <| ⟨rfl, true, rfl, h⟩) (fun h => ex_and1 <| ex_cmp <| ex_fld <| ex_var ⟨rfl, rfl⟩ <| ⟨_, ⟨_, R.L_File.cl, R.A_File_row, .inl ⟨_, _, rfl, rfl, rfl⟩⟩, ex_fld <| ex_var ⟨rfl, rfl⟩ <| ⟨_, ⟨_, R.L_File.cl, R.A_File_row, .inl ⟨_, _, rfl, rfl, rfl⟩⟩, o_eqT <| ⟨rfl, (decide (a_self = a_other)), rfl, h⟩⟩⟩)) fun z1 h => (dN [] h)

def S_check_within (R : Prg K mg) : Spc := fun ds M P E => ∃ (a_value : Int) (a_first : Int) (a_last : Int), ds = [(.int a_value), (.int a_first), (.int a_last)] ∧ (m_check_within a_value a_first a_last).Out (fun r => P .non M) (fun x => E (exE R x) M)
theorem ok_check_within (R : Prg K mg) : FnD PR w K mg base 2 R.f_check_within R.d_check_within P_check_within (S_check_within R) := by
  refine fn_d false R.F_check_within sc_check_within (fun h => nomatch h) (fun ds M P E ⟨_, _, _, e, _⟩ => by rw [e]; rfl) fun cdv A outer s H E hr ds M Pd PE h => ?_
  obtain ⟨a_value, a_first, a_last, rfl, h⟩ := h
  have hu := hr.units
  refine WS.ends ?_
  refine ws_if <| et_w <| ew_or <| et_not <| et_val <| ex_callF (ok_is_whole R) (hr.mono (by decide)) R.m_is_whole R.F_is_whole R.b_is_whole <| ea_cons <| ex_var ⟨rfl, rfl⟩ <| ea_nil <| ⟨a_value, rfl, outU (ob h) (fun z1 h => ⟨_, rfl, cifN h (fun h => ew_or1 <| et_not <| etJQ (ob h) (fun _ h => et_chain <| ex_var ⟨rfl, rfl⟩ <| tch_link <| ex_var ⟨rfl, rfl⟩ <| o_le <| ⟨_, rfl, cif h (fun h => tch_last <| ex_var ⟨rfl, rfl⟩ <| o_le <| ⟨_, rfl, rfl, h⟩) (fun h => ⟨rfl, h⟩)⟩) fun t3 h => cifN h (fun h => ?g5) (fun h => ?g4)) (fun h => ⟨fun _ => ?g2, fun z => nomatch z⟩)⟩) (fun _ h => dX [] h)⟩
  case g2 =>
    exact ws_raise rfl R.S_InvalidNumber R.mc_InvalidNumber R.n_super hr <| ex_asA <| ex_var ⟨rfl, rfl⟩ <| ⟨anyD (clR R) (Any.int a_value), (by first | rfl | (simp only [anyD, anyDL, anyDL_map, List.map_map]; done) | (simp only [anyD, anyDL, anyDL_map, List.map_map]; rfl) | (simp only [anyD, anyDL, anyDL_map, List.map_map, stepA_comp, stepA_D]; rfl) | (simp only [anyD, anyDL, anyDL_map, List.map_map, stepA_comp, stepA_D]; done)), (dX [] h)⟩
  case g4 =>
    exact ws_raise rfl R.S_InvalidNumber R.mc_InvalidNumber R.n_super hr <| ex_asA <| ex_var ⟨rfl, rfl⟩ <| ⟨anyD (clR R) (Any.int a_value), (by first | rfl | (simp only [anyD, anyDL, anyDL_map, List.map_map]; done) | (simp only [anyD, anyDL, anyDL_map, List.map_map]; rfl) | (simp only [anyD, anyDL, anyDL_map, List.map_map, stepA_comp, stepA_D]; rfl) | (simp only [anyD, anyDL, anyDL_map, List.map_map, stepA_comp, stepA_D]; done)), (dX [] h)⟩
  case g5 =>
    refine ws_nil ?_
    exact ws_nil (dN [] h)

def S_File_cut (R : Prg K mg) : Spc := fun ds M P E => ∃ (a_self : Str) (a_length : Int), ds = [((fileD R) a_self), (.int a_length)] ∧ (m_File_cut a_self a_length).Out (fun r => P ((fileD R) r) M) (fun x => E (exE R x) M)
theorem ok_File_cut (R : Prg K mg) : FnD PR w K mg base 4 R.f_File_cut R.d_File_cut P_File_cut (S_File_cut R) := by
  refine fn_d false R.F_File_cut sc_File_cut (fun h => nomatch h) (fun ds M P E ⟨_, _, e, _⟩ => by rw [e]; rfl) fun cdv A outer s H E hr ds M Pd PE h => ?_
  obtain ⟨a_self, a_length, rfl, h⟩ := h
  have hu := hr.units
  refine WS.ends ?_
  refine ws_expr <| ex_callF (ok_check_within R) (hr.mono (by decide)) R.m_check_within R.F_check_within R.b_check_within <| ea_cons <| ex_var ⟨rfl, rfl⟩ <| ea_cons <| ex_int <| ea_cons <| ex_callB R.n_len PyProof.Rows.Boot.«len» <| ea_cons <| ex_fld <| ex_var ⟨rfl, rfl⟩ <| ⟨_, ⟨_, R.L_File.cl, R.A_File_row, .inl ⟨_, _, rfl, rfl, rfl⟩⟩, ea_nil <| r_lenS (ob h) fun z1 h => ea_nil <| ⟨a_length, (0 : Int), z1, rfl, outU (ob h) (fun z2 h => ?_) (fun _ h => dX [] h)⟩⟩
  exact ws_ret <| ex_make R.K_File (ok_File_init R) (hr.mono (by decide)) R.mc_File R.b_File_init .nil (fun _ => .nil) <| ea_cons <| ex_sl <| ex_fld <| ex_var ⟨rfl, rfl⟩ <| ⟨_, ⟨_, R.L_File.cl, R.A_File_row, .inl ⟨_, _, rfl, rfl, rfl⟩⟩, ep_none <| ep_some <| ex_var ⟨rfl, rfl⟩ <| ⟨_, rfl, r_slS (ob h) fun z3 h => ea_nil <| fun q dx _ _ _ => mk_File (ob h) (fun z4 h => (dN [] h)) (fun _ h => dX [_] h)⟩⟩

def S_File_grown (R : Prg K mg) : Spc := fun ds M P E => ∃ (a_self : Str) (a_length : Int), ds = [((fileD R) a_self), (.int a_length)] ∧ (m_File_grown a_self a_length).Out (fun r => P ((fileD R) r) M) (fun x => E (exE R x) M)
theorem ok_File_grown (R : Prg K mg) : FnD PR w K mg base 4 R.f_File_grown R.d_File_grown P_File_grown (S_File_grown R) := by
  refine fn_d false R.F_File_grown sc_File_grown (fun h => nomatch h) (fun ds M P E ⟨_, _, e, _⟩ => by rw [e]; rfl) fun cdv A outer s H E hr ds M Pd PE h => ?_
  obtain ⟨a_self, a_length, rfl, h⟩ := h
  have hu := hr.units
  refine WS.ends ?_
  refine ws_expr <| ex_callF (ok_check_least R) (hr.mono (by decide)) R.m_check_least R.F_check_least R.b_check_least <| ea_cons <| ex_var ⟨rfl, rfl⟩ <| ea_cons <| ex_callB R.n_len PyProof.Rows.Boot.«len» <| ea_cons <| ex_fld <| ex_var ⟨rfl, rfl⟩ <| ⟨_, ⟨_, R.L_File.cl, R.A_File_row, .inl ⟨_, _, rfl, rfl, rfl⟩⟩, ea_nil <| r_lenS (ob h) fun z1 h => ea_nil <| ⟨a_length, z1, rfl, outU (ob h) (fun z2 h => ?_) (fun _ h => dX [] h)⟩⟩
  exact ws_ret <| ex_make R.K_File (ok_File_init R) (hr.mono (by decide)) R.mc_File R.b_File_init .nil (fun _ => .nil) <| ea_cons <| ex_bin <| ex_fld <| ex_var ⟨rfl, rfl⟩ <| ⟨_, ⟨_, R.L_File.cl, R.A_File_row, .inl ⟨_, _, rfl, rfl, rfl⟩⟩, ex_bin <| ex_str <| ex_bin <| ex_var ⟨rfl, rfl⟩ <| ex_callB R.n_len PyProof.Rows.Boot.«len» <| ea_cons <| ex_fld <| ex_var ⟨rfl, rfl⟩ <| ⟨_, ⟨_, R.L_File.cl, R.A_File_row, .inl ⟨_, _, rfl, rfl, rfl⟩⟩, ea_nil <| r_lenS (ob h) fun z3 h => o_sub <| r_repS (ob h) fun z4 h => r_cat (ob h) fun z5 h => ea_nil <| fun q dx _ _ _ => mk_File (ob h) (fun z6 h => (dN [] h)) (fun _ h => dX [_] h)⟩⟩

def S_punched_cell (R : Prg K mg) : Spc := fun ds M P E => ∃ (a_cell : Int) (a_begin : Int) (a_end : Int) (a_size : Int) (a_length : Int), ds = [(.int a_cell), (.int a_begin), (.int a_end), (.int a_size), (.int a_length)] ∧ (m_punched_cell a_cell a_begin a_end a_size a_length).Out (fun r => P (.str r) M) (fun x => E (exE R x) M)
theorem ok_punched_cell (R : Prg K mg) : FnD PR w K mg base 1 R.f_punched_cell R.d_punched_cell P_punched_cell (S_punched_cell R) := by
  refine fn_d false R.F_punched_cell sc_punched_cell (fun h => nomatch h) (fun ds M P E ⟨_, _, _, _, _, e, _⟩ => by rw [e]; rfl) fun cdv A outer s H E hr ds M Pd PE h => ?_
  obtain ⟨a_cell, a_begin, a_end, a_size, a_length, rfl, h⟩ := h
  have hu := hr.units
  refine WS.ends ?_
  refine ws_set <| ex_bin <| ex_bin <| ex_var ⟨rfl, rfl⟩ <| ex_var ⟨rfl, rfl⟩ <| r_div (ob h) fun z1 h => ex_var ⟨rfl, rfl⟩ <| r_mul (ob h) fun z2 h => ?_
  refine ws_if <| etJQ (ob h) (fun _ h => et_w <| ewA h (fun _ h => et_cmp <| ex_var ⟨rfl, rfl⟩ <| ex_var ⟨rfl, rfl⟩ <| o_le <| ⟨_, rfl, rfl, h⟩) (fun h => ew_and1 <| et_cmp <| ex_callB R.n_min PyProof.Rows.Boot.«min» <| ea_cons <| ex_bin <| ex_var ⟨rfl, rfl⟩ <| ex_var ⟨rfl, rfl⟩ <| o_add <| ea_cons <| ex_var ⟨rfl, rfl⟩ <| ea_nil <| c_minT <| ex_var ⟨rfl, rfl⟩ <| o_le <| ⟨_, rfl, rfl, h⟩)) fun t3 h => cif h (fun h => ?g4) (fun h => ?g5)
  case g4 =>
    exact ws_ret <| ex_str <| (dN [] h)
  case g5 =>
    refine ws_nil ?_
    exact ws_ret <| ex_str <| (dN [] h)

def S_File_punched (R : Prg K mg) : Spc := fun ds M P E => ∃ (a_self : Str) (a_begin : Int) (a_end : Int) (a_size : Int), ds = [((fileD R) a_self), (.int a_begin), (.int a_end), (.int a_size)] ∧ (m_File_punched a_self a_begin a_end a_size).Out (fun r => P ((fileD R) r) M) (fun x => E (exE R x) M)
theorem ok_File_punched (R : Prg K mg) : FnD PR w K mg base 4 R.f_File_punched R.d_File_punched P_File_punched (S_File_punched R) := by
  refine fn_d false R.F_File_punched sc_File_punched (fun h => nomatch h) (fun ds M P E ⟨_, _, _, _, e, _⟩ => by rw [e]; rfl) fun cdv A outer s H E hr ds M Pd PE h => ?_
  obtain ⟨a_self, a_begin, a_end, a_size, rfl, h⟩ := h
  have hu := hr.units
  refine WS.ends ?_
  refine ws_expr <| ex_callF (ok_check_within R) (hr.mono (by decide)) R.m_check_within R.F_check_within R.b_check_within <| ea_cons <| ex_var ⟨rfl, rfl⟩ <| ea_cons <| ex_int <| ea_cons <| ex_callB R.n_len PyProof.Rows.Boot.«len» <| ea_cons <| ex_fld <| ex_var ⟨rfl, rfl⟩ <| ⟨_, ⟨_, R.L_File.cl, R.A_File_row, .inl ⟨_, _, rfl, rfl, rfl⟩⟩, ea_nil <| r_lenS (ob h) fun z1 h => ea_nil <| ⟨a_begin, (0 : Int), z1, rfl, outU (ob h) (fun z2 h => ?_) (fun _ h => dX [] h)⟩⟩
  refine ws_expr <| ex_callF (ok_check_within R) (hr.mono (by decide)) R.m_check_within R.F_check_within R.b_check_within <| ea_cons <| ex_var ⟨rfl, rfl⟩ <| ea_cons <| ex_var ⟨rfl, rfl⟩ <| ea_cons <| ex_callB R.n_len PyProof.Rows.Boot.«len» <| ea_cons <| ex_fld <| ex_var ⟨rfl, rfl⟩ <| ⟨_, ⟨_, R.L_File.cl, R.A_File_row, .inl ⟨_, _, rfl, rfl, rfl⟩⟩, ea_nil <| r_lenS (ob h) fun z3 h => ea_nil <| ⟨a_end, a_begin, z3, rfl, outU (ob h) (fun z4 h => ?_) (fun _ h => dX [] h)⟩⟩
  refine ws_expr <| ex_callF (ok_check_least R) (hr.mono (by decide)) R.m_check_least R.F_check_least R.b_check_least <| ea_cons <| ex_var ⟨rfl, rfl⟩ <| ea_cons <| ex_int <| ea_nil <| ⟨a_size, (1 : Int), rfl, outU (ob h) (fun z5 h => ?_) (fun _ h => dX [] h)⟩
  refine ws_setLcT [("cell", 5)] <| ei_rng2 R.n_range <| ex_var ⟨rfl, rfl⟩ <| ex_var ⟨rfl, rfl⟩ <| ⟨a_begin, a_end, rfl, rfl, (gd (ob h)).1, have h := (gd (ob h)).2; compT Dat.int Dat.str (xs := (rangeL a_begin (Int.toNat (a_end - a_begin)))) (ob h) trivial (fun x6 _ h s H C cl fp => gc_name  <| fun s H C cl fp => ef_nil ⟨fun _ s H C cl fp => ex_callF (ok_punched_cell R) (hr.mono (by decide)) R.m_punched_cell R.F_punched_cell R.b_punched_cell <| ea_cons <| ex_var ⟨rfl, rfl⟩ <| ea_cons <| ex_var ⟨rfl, rfl⟩ <| ea_cons <| ex_var ⟨rfl, rfl⟩ <| ea_cons <| ex_var ⟨rfl, rfl⟩ <| ea_cons <| ex_callB R.n_len PyProof.Rows.Boot.«len» <| ea_cons <| ex_fld <| ex_var ⟨rfl, rfl⟩ <| ⟨_, ⟨_, R.L_File.cl, R.A_File_row, .inl ⟨_, _, rfl, rfl, rfl⟩⟩, ea_nil <| r_lenS (ob h) fun z7 h => ea_nil <| ⟨x6, a_begin, a_end, a_size, z7, rfl, outU (ob h) (fun z8 h => ⟨rfl, z8, rfl, h⟩) (fun _ h => h)⟩⟩, fun z => nomatch z⟩) (fun l9 h => ?_)⟩
  exact ws_ret <| ex_make R.K_File (ok_File_init R) (hr.mono (by decide)) R.mc_File R.b_File_init .nil (fun _ => .nil) <| ea_cons <| ex_bin <| ex_bin <| ex_sl <| ex_fld <| ex_var ⟨rfl, rfl⟩ <| ⟨_, ⟨_, R.L_File.cl, R.A_File_row, .inl ⟨_, _, rfl, rfl, rfl⟩⟩, ep_none <| ep_some <| ex_var ⟨rfl, rfl⟩ <| ⟨_, rfl, r_slS (ob h) fun z10 h => ex_join <| ex_str <| ⟨.str, ea_cons <| ex_var ⟨rfl, rfl⟩ <| ea_nil <| r_joinS (xs := l9) (ob h) fun z11 h => r_cat (ob h) fun z12 h => ex_sl <| ex_fld <| ex_var ⟨rfl, rfl⟩ <| ⟨_, ⟨_, R.L_File.cl, R.A_File_row, .inl ⟨_, _, rfl, rfl, rfl⟩⟩, ep_some <| ex_var ⟨rfl, rfl⟩ <| ⟨_, rfl, ep_none <| r_slS (ob h) fun z13 h => r_cat (ob h) fun z14 h => ea_nil <| fun q dx _ _ _ => mk_File (ob h) (fun z15 h => (dN [] h)) (fun _ h => dX [_] h)⟩⟩⟩⟩⟩

def S_Keep_eq (R : Prg K mg) : Spc := fun ds M P E => ∃ (a_self : Int) (a_other : Int), ds = [((keepD R) a_self), ((keepD R) a_other)] ∧ (m_Keep_eq a_self a_other).Out (fun r => P (.bl r) M) (fun x => E (exE R x) M)
theorem ok_Keep_eq (R : Prg K mg) : FnD PR w K mg base 1 R.f_Keep_eq R.d_Keep_eq P_Keep_eq (S_Keep_eq R) := by
  refine fn_d false R.F_Keep_eq sc_Keep_eq (fun h => nomatch h) (fun ds M P E ⟨_, _, e, _⟩ => by rw [e]; rfl) fun cdv A outer s H E hr ds M Pd PE h => ?_
  obtain ⟨a_self, a_other, rfl, h⟩ := h
  have hu := hr.units
  refine WS.ends ?_
  exact ws_ret <| exJQ Dat.bl (ob h) (fun _ h => exA h (fun _ h => ex_callB R.n_isinstance PyProof.Rows.Boot.«isinstance» <| ea_cons <| ex_var ⟨rfl, rfl⟩ <| ea_cons <| ex_gref R.mc_Keep <| ea_nil <| c_isi (k := true) (.own _) (.obj R.L_Keep) R.s_Keep_Keep <| ⟨rfl, true, rfl, h⟩) (fun h => ex_and1 <| ex_cmp <| ex_fld <| ex_var ⟨rfl, rfl⟩ <| ⟨_, ⟨_, R.L_Keep.cl, R.A_Keep_wide, .inl ⟨_, _, rfl, rfl, rfl⟩⟩, ex_fld <| ex_var ⟨rfl, rfl⟩ <| ⟨_, ⟨_, R.L_Keep.cl, R.A_Keep_wide, .inl ⟨_, _, rfl, rfl, rfl⟩⟩, o_eqI <| ⟨rfl, (decide (a_self = a_other)), rfl, h⟩⟩⟩)) fun z1 h => (dN [] h)

def S_Lean_eq (R : Prg K mg) : Spc := fun ds M P E => ∃ (a_self : Int) (a_other : Int), ds = [((leanD R) a_self), ((leanD R) a_other)] ∧ (m_Lean_eq a_self a_other).Out (fun r => P (.bl r) M) (fun x => E (exE R x) M)
theorem ok_Lean_eq (R : Prg K mg) : FnD PR w K mg base 1 R.f_Lean_eq R.d_Lean_eq P_Lean_eq (S_Lean_eq R) := by
  refine fn_d false R.F_Lean_eq sc_Lean_eq (fun h => nomatch h) (fun ds M P E ⟨_, _, e, _⟩ => by rw [e]; rfl) fun cdv A outer s H E hr ds M Pd PE h => ?_
  obtain ⟨a_self, a_other, rfl, h⟩ := h
  have hu := hr.units
  refine WS.ends ?_
  exact ws_ret <| exJQ Dat.bl (ob h) (fun _ h => exA h (fun _ h => ex_callB R.n_isinstance PyProof.Rows.Boot.«isinstance» <| ea_cons <| ex_var ⟨rfl, rfl⟩ <| ea_cons <| ex_gref R.mc_Lean <| ea_nil <| c_isi (k := true) (.own _) (.obj R.L_Lean) R.s_Lean_Lean <| ⟨rfl, true, rfl, h⟩) (fun h => ex_and1 <| ex_cmp <| ex_fld <| ex_var ⟨rfl, rfl⟩ <| ⟨_, ⟨_, R.L_Lean.cl, R.A_Lean_wide, .inl ⟨_, _, rfl, rfl, rfl⟩⟩, ex_fld <| ex_var ⟨rfl, rfl⟩ <| ⟨_, ⟨_, R.L_Lean.cl, R.A_Lean_wide, .inl ⟨_, _, rfl, rfl, rfl⟩⟩, o_eqI <| ⟨rfl, (decide (a_self = a_other)), rfl, h⟩⟩⟩)) fun z1 h => (dN [] h)

def S_Dig_eq (R : Prg K mg) : Spc := fun ds M P E => ∃ (a_self : Int) (a_other : Int), ds = [((digD R) a_self), ((digD R) a_other)] ∧ (m_Dig_eq a_self a_other).Out (fun r => P (.bl r) M) (fun x => E (exE R x) M)
theorem ok_Dig_eq (R : Prg K mg) : FnD PR w K mg base 1 R.f_Dig_eq R.d_Dig_eq P_Dig_eq (S_Dig_eq R) := by
  refine fn_d false R.F_Dig_eq sc_Dig_eq (fun h => nomatch h) (fun ds M P E ⟨_, _, e, _⟩ => by rw [e]; rfl) fun cdv A outer s H E hr ds M Pd PE h => ?_
  obtain ⟨a_self, a_other, rfl, h⟩ := h
  have hu := hr.units
  refine WS.ends ?_
  exact ws_ret <| exJQ Dat.bl (ob h) (fun _ h => exA h (fun _ h => ex_callB R.n_isinstance PyProof.Rows.Boot.«isinstance» <| ea_cons <| ex_var ⟨rfl, rfl⟩ <| ea_cons <| ex_gref R.mc_Dig <| ea_nil <| c_isi (k := true) (.own _) (.obj R.L_Dig) R.s_Dig_Dig <| ⟨rfl, true, rfl, h⟩) (fun h => ex_and1 <| ex_cmp <| ex_fld <| ex_var ⟨rfl, rfl⟩ <| ⟨_, ⟨_, R.L_Dig.cl, R.A_Dig_wide, .inl ⟨_, _, rfl, rfl, rfl⟩⟩, ex_fld <| ex_var ⟨rfl, rfl⟩ <| ⟨_, ⟨_, R.L_Dig.cl, R.A_Dig_wide, .inl ⟨_, _, rfl, rfl, rfl⟩⟩, o_eqI <| ⟨rfl, (decide (a_self = a_other)), rfl, h⟩⟩⟩)) fun z1 h => (dN [] h)

def S_Full_eq__v2 (R : Prg K mg) : Spc := fun ds M P E => ∃ (a_self : Unit) (a_other : StepT), ds = [((fullD R) a_self), ((stepD R) a_other)] ∧ (m_Full_eq__v2 a_self a_other).Out (fun r => P (.bl r) M) (fun x => E (exE R x) M)
theorem ok_Full_eq__v2 (R : Prg K mg) : FnD PR w K mg base 1 R.f_Full_eq R.d_Full_eq P_Full_eq (S_Full_eq__v2 R) := by
  refine fn_d false R.F_Full_eq sc_Full_eq (fun h => nomatch h) (fun ds M P E ⟨_, _, e, _⟩ => by rw [e]; rfl) fun cdv A outer s H E hr ds M Pd PE h => ?_
  obtain ⟨a_self, a_other, rfl, h⟩ := h
  have hu := hr.units
  refine WS.ends ?_
  exact ws_ret <| ex_callB R.n_isinstance PyProof.Rows.Boot.«isinstance» <| ea_cons <| ex_var ⟨rfl, rfl⟩ <| ea_cons <| ex_gref R.mc_Full <| ea_nil <| c_isx (.own _) (isin_Full R a_other) <| (dN [] h)

def S_Keep_eq__v2 (R : Prg K mg) : Spc := fun ds M P E => ∃ (a_self : Int) (a_other : StepT), ds = [((keepD R) a_self), ((stepD R) a_other)] ∧ (m_Keep_eq__v2 a_self a_other).Out (fun r => P (.bl r) M) (fun x => E (exE R x) M)
theorem ok_Keep_eq__v2 (R : Prg K mg) : FnD PR w K mg base 1 R.f_Keep_eq R.d_Keep_eq P_Keep_eq (S_Keep_eq__v2 R) := by
  refine fn_d false R.F_Keep_eq sc_Keep_eq (fun h => nomatch h) (fun ds M P E ⟨_, _, e, _⟩ => by rw [e]; rfl) fun cdv A outer s H E hr ds M Pd PE h => ?_
  obtain ⟨a_self, a_other, rfl, h⟩ := h
  have hu := hr.units
  refine WS.ends ?_
  exact ws_ret <| exJQ Dat.bl (ob h) (fun _ h => exA h (fun _ h => ex_callB R.n_isinstance PyProof.Rows.Boot.«isinstance» <| ea_cons <| ex_var ⟨rfl, rfl⟩ <| ea_cons <| ex_gref R.mc_Keep <| ea_nil <| c_isx (.own _) (isin_Keep R a_other) <| ⟨rfl, (is_Keep a_other), rfl, h⟩) (fun h => ex_and1 <| ex_cmp <| ex_fld <| ex_var ⟨rfl, rfl⟩ <| ⟨_, ⟨_, R.L_Keep.cl, R.A_Keep_wide, .inl ⟨_, _, rfl, rfl, rfl⟩⟩, ex_fld <| ex_var ⟨rfl, rfl⟩ <| wideD R a_other (ob h) fun z1 h => o_eqI <| ⟨rfl, (decide (a_self = z1)), rfl, h⟩⟩)) fun z2 h => (dN [] h)

def S_Lean_eq__v2 (R : Prg K mg) : Spc := fun ds M P E => ∃ (a_self : Int) (a_other : StepT), ds = [((leanD R) a_self), ((stepD R) a_other)] ∧ (m_Lean_eq__v2 a_self a_other).Out (fun r => P (.bl r) M) (fun x => E (exE R x) M)
theorem ok_Lean_eq__v2 (R : Prg K mg) : FnD PR w K mg base 1 R.f_Lean_eq R.d_Lean_eq P_Lean_eq (S_Lean_eq__v2 R) := by
  refine fn_d false R.F_Lean_eq sc_Lean_eq (fun h => nomatch h) (fun ds M P E ⟨_, _, e, _⟩ => by rw [e]; rfl) fun cdv A outer s H E hr ds M Pd PE h => ?_
  obtain ⟨a_self, a_other, rfl, h⟩ := h
  have hu := hr.units
  refine WS.ends ?_
  exact ws_ret <| exJQ Dat.bl (ob h) (fun _ h => exA h (fun _ h => ex_callB R.n_isinstance PyProof.Rows.Boot.«isinstance» <| ea_cons <| ex_var ⟨rfl, rfl⟩ <| ea_cons <| ex_gref R.mc_Lean <| ea_nil <| c_isx (.own _) (isin_Lean R a_other) <| ⟨rfl, (is_Lean a_other), rfl, h⟩) (fun h => ex_and1 <| ex_cmp <| ex_fld <| ex_var ⟨rfl, rfl⟩ <| ⟨_, ⟨_, R.L_Lean.cl, R.A_Lean_wide, .inl ⟨_, _, rfl, rfl, rfl⟩⟩, ex_fld <| ex_var ⟨rfl, rfl⟩ <| wideD R a_other (ob h) fun z1 h => o_eqI <| ⟨rfl, (decide (a_self = z1)), rfl, h⟩⟩)) fun z2 h => (dN [] h)

def S_Dig_eq__v2 (R : Prg K mg) : Spc := fun ds M P E => ∃ (a_self : Int) (a_other : StepT), ds = [((digD R) a_self), ((stepD R) a_other)] ∧ (m_Dig_eq__v2 a_self a_other).Out (fun r => P (.bl r) M) (fun x => E (exE R x) M)
theorem ok_Dig_eq__v2 (R : Prg K mg) : FnD PR w K mg base 1 R.f_Dig_eq R.d_Dig_eq P_Dig_eq (S_Dig_eq__v2 R) := by
  refine fn_d false R.F_Dig_eq sc_Dig_eq (fun h => nomatch h) (fun ds M P E ⟨_, _, e, _⟩ => by rw [e]; rfl) fun cdv A outer s H E hr ds M Pd PE h => ?_
  obtain ⟨a_self, a_other, rfl, h⟩ := h
  have hu := hr.units
  refine WS.ends ?_
  exact ws_ret <| exJQ Dat.bl (ob h) (fun _ h => exA h (fun _ h => ex_callB R.n_isinstance PyProof.Rows.Boot.«isinstance» <| ea_cons <| ex_var ⟨rfl, rfl⟩ <| ea_cons <| ex_gref R.mc_Dig <| ea_nil <| c_isx (.own _) (isin_Dig R a_other) <| ⟨rfl, (is_Dig a_other), rfl, h⟩) (fun h => ex_and1 <| ex_cmp <| ex_fld <| ex_var ⟨rfl, rfl⟩ <| ⟨_, ⟨_, R.L_Dig.cl, R.A_Dig_wide, .inl ⟨_, _, rfl, rfl, rfl⟩⟩, ex_fld <| ex_var ⟨rfl, rfl⟩ <| wideD R a_other (ob h) fun z1 h => o_eqI <| ⟨rfl, (decide (a_self = z1)), rfl, h⟩⟩)) fun z2 h => (dN [] h)

theorem eq_Step (R : Prg K mg) (s t : StepT) {A : Around} (hr : Room 2 A) : EqO PR w K mg base A (stepD R s) (stepD R t) (m_Step_eq s t) := by
  cases s with
  | full =>
    cases t with
    | full => exact ⟨R.C_Full, _, _, _, _, _, .ref R.C_Full, ok_Full_eq__v2 R, hr.mono (by decide), R.M_Full_eq, R.ne_Full, R.L_Full, R.b_Full_eq, (fun _ => .inl ⟨_, _, rfl, by decide⟩), (fun _ => .obj R.L_Full), nf_self, fun M P' E' h => ⟨(), StepT.full, rfl, out_mono h (fun _ h => h) (fun _ h => h.elim)⟩⟩
    | keep i => exact ⟨R.C_Full, _, _, _, _, _, .ref R.C_Keep, ok_Full_eq__v2 R, hr.mono (by decide), R.M_Full_eq, R.ne_Full, R.L_Full, R.b_Full_eq, (fun _ => .inl ⟨_, _, rfl, by decide⟩), (fun _ => .obj R.L_Keep), R.nf_Full_Keep, fun M P' E' h => ⟨(), (.keep i), rfl, out_mono h (fun _ h => h) (fun _ h => h.elim)⟩⟩
    | lean i => exact ⟨R.C_Full, _, _, _, _, _, .ref R.C_Lean, ok_Full_eq__v2 R, hr.mono (by decide), R.M_Full_eq, R.ne_Full, R.L_Full, R.b_Full_eq, (fun _ => .inl ⟨_, _, rfl, by decide⟩), (fun _ => .obj R.L_Lean), R.nf_Full_Lean, fun M P' E' h => ⟨(), (.lean i), rfl, out_mono h (fun _ h => h) (fun _ h => h.elim)⟩⟩
    | dig i => exact ⟨R.C_Full, _, _, _, _, _, .ref R.C_Dig, ok_Full_eq__v2 R, hr.mono (by decide), R.M_Full_eq, R.ne_Full, R.L_Full, R.b_Full_eq, (fun _ => .inl ⟨_, _, rfl, by decide⟩), (fun _ => .obj R.L_Dig), R.nf_Full_Dig, fun M P' E' h => ⟨(), (.dig i), rfl, out_mono h (fun _ h => h) (fun _ h => h.elim)⟩⟩
  | keep n =>
    cases t with
    | full => exact ⟨R.C_Keep, _, _, _, _, _, .ref R.C_Full, ok_Keep_eq__v2 R, hr.mono (by decide), R.M_Keep_eq, R.ne_Keep, R.L_Keep, R.b_Keep_eq, (fun _ => .inl ⟨_, _, rfl, by decide⟩), (fun _ => .obj R.L_Full), R.nf_Keep_Full, fun M P' E' h => ⟨n, StepT.full, rfl, out_mono h (fun _ h => h) (fun _ h => h.elim)⟩⟩
    | keep i => exact ⟨R.C_Keep, _, _, _, _, _, .ref R.C_Keep, ok_Keep_eq__v2 R, hr.mono (by decide), R.M_Keep_eq, R.ne_Keep, R.L_Keep, R.b_Keep_eq, (fun _ => .inl ⟨_, _, rfl, by decide⟩), (fun _ => .obj R.L_Keep), nf_self, fun M P' E' h => ⟨n, (.keep i), rfl, out_mono h (fun _ h => h) (fun _ h => h.elim)⟩⟩
    | lean i => exact ⟨R.C_Keep, _, _, _, _, _, .ref R.C_Lean, ok_Keep_eq__v2 R, hr.mono (by decide), R.M_Keep_eq, R.ne_Keep, R.L_Keep, R.b_Keep_eq, (fun _ => .inl ⟨_, _, rfl, by decide⟩), (fun _ => .obj R.L_Lean), R.nf_Keep_Lean, fun M P' E' h => ⟨n, (.lean i), rfl, out_mono h (fun _ h => h) (fun _ h => h.elim)⟩⟩
    | dig i => exact ⟨R.C_Keep, _, _, _, _, _, .ref R.C_Dig, ok_Keep_eq__v2 R, hr.mono (by decide), R.M_Keep_eq, R.ne_Keep, R.L_Keep, R.b_Keep_eq, (fun _ => .inl ⟨_, _, rfl, by decide⟩), (fun _ => .obj R.L_Dig), R.nf_Keep_Dig, fun M P' E' h => ⟨n, (.dig i), rfl, out_mono h (fun _ h => h) (fun _ h => h.elim)⟩⟩
  | lean n =>
    cases t with
    | full => exact ⟨R.C_Lean, _, _, _, _, _, .ref R.C_Full, ok_Lean_eq__v2 R, hr.mono (by decide), R.M_Lean_eq, R.ne_Lean, R.L_Lean, R.b_Lean_eq, (fun _ => .inl ⟨_, _, rfl, by decide⟩), (fun _ => .obj R.L_Full), R.nf_Lean_Full, fun M P' E' h => ⟨n, StepT.full, rfl, out_mono h (fun _ h => h) (fun _ h => h.elim)⟩⟩
    | keep i => exact ⟨R.C_Lean, _, _, _, _, _, .ref R.C_Keep, ok_Lean_eq__v2 R, hr.mono (by decide), R.M_Lean_eq, R.ne_Lean, R.L_Lean, R.b_Lean_eq, (fun _ => .inl ⟨_, _, rfl, by decide⟩), (fun _ => .obj R.L_Keep), R.nf_Lean_Keep, fun M P' E' h => ⟨n, (.keep i), rfl, out_mono h (fun _ h => h) (fun _ h => h.elim)⟩⟩
    | lean i => exact ⟨R.C_Lean, _, _, _, _, _, .ref R.C_Lean, ok_Lean_eq__v2 R, hr.mono (by decide), R.M_Lean_eq, R.ne_Lean, R.L_Lean, R.b_Lean_eq, (fun _ => .inl ⟨_, _, rfl, by decide⟩), (fun _ => .obj R.L_Lean), nf_self, fun M P' E' h => ⟨n, (.lean i), rfl, out_mono h (fun _ h => h) (fun _ h => h.elim)⟩⟩
    | dig i => exact ⟨R.C_Lean, _, _, _, _, _, .ref R.C_Dig, ok_Lean_eq__v2 R, hr.mono (by decide), R.M_Lean_eq, R.ne_Lean, R.L_Lean, R.b_Lean_eq, (fun _ => .inl ⟨_, _, rfl, by decide⟩), (fun _ => .obj R.L_Dig), R.nf_Lean_Dig, fun M P' E' h => ⟨n, (.dig i), rfl, out_mono h (fun _ h => h) (fun _ h => h.elim)⟩⟩
  | dig n =>
    cases t with
    | full => exact ⟨R.C_Dig, _, _, _, _, _, .ref R.C_Full, ok_Dig_eq__v2 R, hr.mono (by decide), R.M_Dig_eq, R.ne_Dig, R.L_Dig, R.b_Dig_eq, (fun _ => .inl ⟨_, _, rfl, by decide⟩), (fun _ => .obj R.L_Full), R.nf_Dig_Full, fun M P' E' h => ⟨n, StepT.full, rfl, out_mono h (fun _ h => h) (fun _ h => h.elim)⟩⟩
    | keep i => exact ⟨R.C_Dig, _, _, _, _, _, .ref R.C_Keep, ok_Dig_eq__v2 R, hr.mono (by decide), R.M_Dig_eq, R.ne_Dig, R.L_Dig, R.b_Dig_eq, (fun _ => .inl ⟨_, _, rfl, by decide⟩), (fun _ => .obj R.L_Keep), R.nf_Dig_Keep, fun M P' E' h => ⟨n, (.keep i), rfl, out_mono h (fun _ h => h) (fun _ h => h.elim)⟩⟩
    | lean i => exact ⟨R.C_Dig, _, _, _, _, _, .ref R.C_Lean, ok_Dig_eq__v2 R, hr.mono (by decide), R.M_Dig_eq, R.ne_Dig, R.L_Dig, R.b_Dig_eq, (fun _ => .inl ⟨_, _, rfl, by decide⟩), (fun _ => .obj R.L_Lean), R.nf_Dig_Lean, fun M P' E' h => ⟨n, (.lean i), rfl, out_mono h (fun _ h => h) (fun _ h => h.elim)⟩⟩
    | dig i => exact ⟨R.C_Dig, _, _, _, _, _, .ref R.C_Dig, ok_Dig_eq__v2 R, hr.mono (by decide), R.M_Dig_eq, R.ne_Dig, R.L_Dig, R.b_Dig_eq, (fun _ => .inl ⟨_, _, rfl, by decide⟩), (fun _ => .obj R.L_Dig), nf_self, fun M P' E' h => ⟨n, (.dig i), rfl, out_mono h (fun _ h => h) (fun _ h => h.elim)⟩⟩
theorem isR_Step (R : Prg K mg) (s : StepT) : isR (stepD R s) = true := by cases s <;> rfl
theorem inj_Step (R : Prg K mg) : ∀ (G : Hp) (x y : StepT) (a : Addr), Den K G (stepD R x) (.ref a) → Den K G (stepD R y) (.ref a) → x = y := by
  intro G x y a d1 d2
  cases x with
  | full =>
    cases y with
    | full => rfl
    | keep i => exact (cls_ne R.s_Full_Keep R.s_Keep_Keep (den_obj_cls d1 d2)).elim
    | lean i => exact (cls_ne R.s_Full_Lean R.s_Lean_Lean (den_obj_cls d1 d2)).elim
    | dig i => exact (cls_ne R.s_Full_Dig R.s_Dig_Dig (den_obj_cls d1 d2)).elim
  | keep n =>
    cases y with
    | full => exact (cls_ne R.s_Keep_Full R.s_Full_Full (den_obj_cls d1 d2)).elim
    | keep i => rw [(den_obj_int d1 d2).2]
    | lean i => exact (cls_ne R.s_Keep_Lean R.s_Lean_Lean (den_obj_cls d1 d2)).elim
    | dig i => exact (cls_ne R.s_Keep_Dig R.s_Dig_Dig (den_obj_cls d1 d2)).elim
  | lean n =>
    cases y with
    | full => exact (cls_ne R.s_Lean_Full R.s_Full_Full (den_obj_cls d1 d2)).elim
    | keep i => exact (cls_ne R.s_Lean_Keep R.s_Keep_Keep (den_obj_cls d1 d2)).elim
    | lean i => rw [(den_obj_int d1 d2).2]
    | dig i => exact (cls_ne R.s_Lean_Dig R.s_Dig_Dig (den_obj_cls d1 d2)).elim
  | dig n =>
    cases y with
    | full => exact (cls_ne R.s_Dig_Full R.s_Full_Full (den_obj_cls d1 d2)).elim
    | keep i => exact (cls_ne R.s_Dig_Keep R.s_Keep_Keep (den_obj_cls d1 d2)).elim
    | lean i => exact (cls_ne R.s_Dig_Lean R.s_Lean_Lean (den_obj_cls d1 d2)).elim
    | dig i => rw [(den_obj_int d1 d2).2]
theorem eqs_Step : ∀ x : StepT, m_Step_eq x x = .ok true := by
  intro x
  cases x with
  | full => rfl
  | keep n => show (andR _ _).bind _ = _; simp [is_Keep, m_Step_wide]
  | lean n => show (andR _ _).bind _ = _; simp [is_Lean, m_Step_wide]
  | dig n => show (andR _ _).bind _ = _; simp [is_Dig, m_Step_wide]

def S_Script_eq (R : Prg K mg) : Spc := fun ds M P E => ∃ (a_self : (List StepT)) (a_other : (List StepT)), ds = [((scriptD R) a_self), ((scriptD R) a_other)] ∧ (m_Script_eq a_self a_other).Out (fun r => P (.bl r) M) (fun x => E (exE R x) M)
theorem ok_Script_eq (R : Prg K mg) : FnD PR w K mg base 5 R.f_Script_eq R.d_Script_eq P_Script_eq (S_Script_eq R) := by
  refine fn_d false R.F_Script_eq sc_Script_eq (fun h => nomatch h) (fun ds M P E ⟨_, _, e, _⟩ => by rw [e]; rfl) fun cdv A outer s H E hr ds M Pd PE h => ?_
  obtain ⟨a_self, a_other, rfl, h⟩ := h
  have hu := hr.units
  refine WS.ends ?_
  exact ws_ret <| exJQ Dat.bl (ob h) (fun _ h => exA h (fun _ h => ex_callB R.n_isinstance PyProof.Rows.Boot.«isinstance» <| ea_cons <| ex_var ⟨rfl, rfl⟩ <| ea_cons <| ex_gref R.mc_Script <| ea_nil <| c_isi (k := true) (.own _) (.obj R.L_Script) R.s_Script_Script <| ⟨rfl, true, rfl, h⟩) (fun h => ex_and1 <| ex_cmp <| ex_fld <| ex_var ⟨rfl, rfl⟩ <| ⟨_, ⟨_, R.L_Script.cl, R.A_Script_rows, .inl ⟨_, _, rfl, rfl, rfl⟩⟩, ex_fld <| ex_var ⟨rfl, rfl⟩ <| ⟨_, ⟨_, R.L_Script.cl, R.A_Script_rows, .inl ⟨_, _, rfl, rfl, rfl⟩⟩, o_eqTup (f := stepD R) (me := m_Step_eq) (xs := a_self) (ys := a_other) (fun x y => eq_Step R x y (hr.mono (by decide)).in1) (isR_Step R) (inj_Step R) eqs_Step hu (ob h) fun z1 h => ⟨rfl, z1, rfl, h⟩⟩⟩)) fun z2 h => (dN [] h)

def S_Script_without (R : Prg K mg) : Spc := fun ds M P E => ∃ (a_self : (List StepT)) (a_k : Int), ds = [((scriptD R) a_self), (.int a_k)] ∧ (m_Script_without a_self a_k).Out (fun r => P ((scriptD R) r) M) (fun x => E (exE R x) M)
theorem ok_Script_without (R : Prg K mg) : FnD PR w K mg base 4 R.f_Script_without R.d_Script_without P_Script_without (S_Script_without R) := by
  refine fn_d false R.F_Script_without sc_Script_without (fun h => nomatch h) (fun ds M P E ⟨_, _, e, _⟩ => by rw [e]; rfl) fun cdv A outer s H E hr ds M Pd PE h => ?_
  obtain ⟨a_self, a_k, rfl, h⟩ := h
  have hu := hr.units
  refine WS.ends ?_
  refine ws_expr <| ex_callF (ok_check_within R) (hr.mono (by decide)) R.m_check_within R.F_check_within R.b_check_within <| ea_cons <| ex_var ⟨rfl, rfl⟩ <| ea_cons <| ex_int <| ea_cons <| ex_bin <| ex_callB R.n_len PyProof.Rows.Boot.«len» <| ea_cons <| ex_fld <| ex_var ⟨rfl, rfl⟩ <| ⟨_, ⟨_, R.L_Script.cl, R.A_Script_rows, .inl ⟨_, _, rfl, rfl, rfl⟩⟩, ea_nil <| c_lenV (stepD R) (xs := a_self) <| ex_int <| o_sub <| ea_nil <| ⟨a_k, (0 : Int), ((a_self.length : Int) - (1 : Int)), rfl, outU (ob h) (fun z1 h => ?_) (fun _ h => dX [] h)⟩⟩
  exact ws_ret <| ex_make R.K_Script (ok_Script_init R) (hr.mono (by decide)) R.mc_Script R.b_Script_init .nil (fun _ => .nil) <| ea_cons <| ex_callTy R.n_list PyProof.Rows.Boot.«list» <| ea_cons <| ex_bin <| ex_sl <| ex_fld <| ex_var ⟨rfl, rfl⟩ <| ⟨_, ⟨_, R.L_Script.cl, R.A_Script_rows, .inl ⟨_, _, rfl, rfl, rfl⟩⟩, ep_none <| ep_some <| ex_var ⟨rfl, rfl⟩ <| ⟨_, rfl, l_tupT2 (stepD R) (xs := a_self) <| ex_sl <| ex_fld <| ex_var ⟨rfl, rfl⟩ <| ⟨_, ⟨_, R.L_Script.cl, R.A_Script_rows, .inl ⟨_, _, rfl, rfl, rfl⟩⟩, ep_some <| ex_bin <| ex_var ⟨rfl, rfl⟩ <| ex_int <| o_add <| ⟨_, rfl, ep_none <| l_tupT2 (stepD R) (xs := a_self) <| r_catT (stepD R) (xs := (cutD a_self none (some a_k))) (ys := (cutD a_self (some (a_k + (1 : Int))) none)) (ob h) fun z4 h => ea_nil <| c_listV (stepD R) (xs := z4) <| ea_nil <| fun q dx _ _ _ => mk_Script (ob h) (fun z5 h => (dN [] h)) (fun _ h => dX [_] h)⟩⟩⟩⟩

def S_check_file (R : Prg K mg) : Spc := fun ds M P E => ∃ (a_value : Str), ds = [((fileD R) a_value)] ∧ (m_check_file a_value).Out (fun r => P .non M) (fun x => E (exE R x) M)
theorem ok_check_file (R : Prg K mg) : FnD PR w K mg base 1 R.f_check_file R.d_check_file P_check_file (S_check_file R) := by
  refine fn_d false R.F_check_file sc_check_file (fun h => nomatch h) (fun ds M P E ⟨_, e, _⟩ => by rw [e]; rfl) fun cdv A outer s H E hr ds M Pd PE h => ?_
  obtain ⟨a_value, rfl, h⟩ := h
  have hu := hr.units
  refine WS.ends ?_
  refine ws_if <| et_not <| et_val <| ex_callB R.n_isinstance PyProof.Rows.Boot.«isinstance» <| ea_cons <| ex_var ⟨rfl, rfl⟩ <| ea_cons <| ex_gref R.mc_File <| ea_nil <| c_isi (k := true) (.own _) (.obj R.L_File) R.s_File_File <| ⟨_, rfl, (fun z => absurd z (by decide)), fun _ => ?_⟩
  refine ws_nil ?_
  exact ws_nil (dN [] h)

def S_filled (R : Prg K mg) : Spc := fun ds M P E => ∃ (a_cells : Str), ds = [(.str a_cells)] ∧ (m_filled a_cells).Out (fun r => P (.str r) M) (fun x => E (exE R x) M)
theorem ok_filled (R : Prg K mg) : FnD PR w K mg base 1 R.f_filled R.d_filled P_filled (S_filled R) := by
  refine fn_d true R.F_filled sc_filled (fun _ => ⟨"cells", by decide, by rfl⟩) (fun ds M P E ⟨_, e, _⟩ => by rw [e]; rfl) fun cdv A outer s H E hr ds M Pd PE h => ?_
  obtain ⟨a_cells, rfl, h⟩ := h
  have hu := hr.units
  refine WS.ends ?_
  exact ws_ret <| ex_repl <| ex_var ⟨rfl, rfl⟩ <| ⟨_, _, _, rfl, ob h, fun z1 h => (dN [] h)⟩

def S_Full_changed (R : Prg K mg) : Spc := fun ds M P E => ∃ (a_self : Unit) (a_cells : Str), ds = [((fullD R) a_self), (.str a_cells)] ∧ (m_Full_changed a_self a_cells).Out (fun r => P (.str r) M) (fun x => E (exE R x) M)
theorem ok_Full_changed (R : Prg K mg) : FnD PR w K mg base 2 R.f_Full_changed R.d_Full_changed P_Full_changed (S_Full_changed R) := by
  refine fn_d false R.F_Full_changed sc_Full_changed (fun h => nomatch h) (fun ds M P E ⟨_, _, e, _⟩ => by rw [e]; rfl) fun cdv A outer s H E hr ds M Pd PE h => ?_
  obtain ⟨a_self, a_cells, rfl, h⟩ := h
  have hu := hr.units
  refine WS.ends ?_
  exact ws_ret <| ex_callF (ok_filled R) (hr.mono (by decide)) R.m_filled R.F_filled R.b_filled <| ea_cons <| ex_var ⟨rfl, rfl⟩ <| ea_nil <| ⟨a_cells, rfl, outU (ob h) (fun z1 h => (dN [] h)) (fun _ h => dX [] h)⟩

def S_blocks_of (R : Prg K mg) : Spc := fun ds M P E => ∃ (a_cells : Str) (a_size : Int), ds = [(.str a_cells), (.int a_size)] ∧ (m_blocks_of a_cells a_size).Out (fun r => P ((lstD Dat.str) r) M) (fun x => E (exE R x) M)
theorem ok_blocks_of (R : Prg K mg) : FnD PR w K mg base 1 R.f_blocks_of R.d_blocks_of P_blocks_of (S_blocks_of R) := by
  refine fn_d false R.F_blocks_of sc_blocks_of (fun h => nomatch h) (fun ds M P E ⟨_, _, e, _⟩ => by rw [e]; rfl) fun cdv A outer s H E hr ds M Pd PE h => ?_
  obtain ⟨a_cells, a_size, rfl, h⟩ := h
  have hu := hr.units
  refine WS.ends ?_
  exact ws_ret <| ex_lcT [("at", 2)] <| ei_rng3 R.n_range <| ex_int <| ex_callB R.n_len PyProof.Rows.Boot.«len» <| ea_cons <| ex_var ⟨rfl, rfl⟩ <| ea_nil <| r_lenS (ob h) fun z1 h => ex_var ⟨rfl, rfl⟩ <| ⟨(0 : Int), z1, a_size, rfl, rfl, rfl, (gd (ob h)).1, have h := (gd (ob h)).2; compT Dat.int Dat.str (xs := (rangeC (0 : Int) a_size (Int.toNat ((z1 - (0 : Int) + a_size - 1) / a_size)))) (ob h) trivial (fun x2 _ h s H C cl fp => gc_name  <| fun s H C cl fp => ef_nil ⟨fun _ s H C cl fp => ex_sl <| ex_var ⟨rfl, rfl⟩ <| ep_some <| ex_var ⟨rfl, rfl⟩ <| ⟨_, rfl, ep_some <| ex_bin <| ex_var ⟨rfl, rfl⟩ <| ex_var ⟨rfl, rfl⟩ <| o_add <| ⟨_, rfl, r_slS (ob h) fun z3 h => ⟨rfl, z3, rfl, h⟩⟩⟩, fun z => nomatch z⟩) (fun l4 h => (dN [] h))⟩

def S_Keep_changed (R : Prg K mg) : Spc := fun ds M P E => ∃ (a_self : Int) (a_cells : Str), ds = [((keepD R) a_self), (.str a_cells)] ∧ (m_Keep_changed a_self a_cells).Out (fun r => P (.str r) M) (fun x => E (exE R x) M)
theorem ok_Keep_changed (R : Prg K mg) : FnD PR w K mg base 2 R.f_Keep_changed R.d_Keep_changed P_Keep_changed (S_Keep_changed R) := by
  refine fn_d false R.F_Keep_changed sc_Keep_changed (fun h => nomatch h) (fun ds M P E ⟨_, _, e, _⟩ => by rw [e]; rfl) fun cdv A outer s H E hr ds M Pd PE h => ?_
  obtain ⟨a_self, a_cells, rfl, h⟩ := h
  have hu := hr.units
  refine WS.ends ?_
  refine ws_set <| ex_callF (ok_blocks_of R) (hr.mono (by decide)) R.m_blocks_of R.F_blocks_of R.b_blocks_of <| ea_cons <| ex_var ⟨rfl, rfl⟩ <| ea_cons <| ex_fld <| ex_var ⟨rfl, rfl⟩ <| ⟨_, ⟨_, R.L_Keep.cl, R.A_Keep_wide, .inl ⟨_, _, rfl, rfl, rfl⟩⟩, ea_nil <| ⟨a_cells, a_self, rfl, outU (ob h) (fun z1 h => ?_) (fun _ h => dX [] h)⟩⟩
  exact ws_ret <| ex_join <| ex_str <| ⟨.str, ea_cons <| ex_lcT [("block", 3)] <| ei_list <| ex_var ⟨rfl, rfl⟩ <| ⟨_, rfl, compT Dat.str Dat.str (xs := z1) (ob h) trivial (fun x2 _ h s H C cl fp => gc_name  <| fun s H C cl fp => ef_nil ⟨fun _ s H C cl fp => exJQ Dat.str (ob h) (fun _ h => ex_if <| et_cmp <| ex_var ⟨rfl, rfl⟩ <| ex_bin <| ex_str <| ex_callB R.n_len PyProof.Rows.Boot.«len» <| ea_cons <| ex_var ⟨rfl, rfl⟩ <| ea_nil <| r_lenS (ob h) fun z3 h => r_repS (ob h) fun z4 h => o_eqT <| ⟨_, rfl, cif h (fun h => ex_var ⟨rfl, rfl⟩ <| ⟨rfl, x2, rfl, h⟩) (fun h => ex_callF (ok_filled R) (hr.mono (by decide)) R.m_filled R.F_filled R.b_filled <| ea_cons <| ex_var ⟨rfl, rfl⟩ <| ea_nil <| ⟨x2, rfl, outU (ob h) (fun z5 h => ⟨rfl, z5, rfl, h⟩) (fun _ h => h)⟩)⟩) fun z6 h => ⟨rfl, z6, rfl, h⟩, fun z => nomatch z⟩) (fun l7 h => ea_nil <| r_joinS (xs := l7) (ob h) fun z8 h => (dN [] h))⟩⟩

def S_has_sign (R : Prg K mg) : Spc := fun ds M P E => ∃ (a_cells : Str), ds = [(.str a_cells)] ∧ (m_has_sign a_cells).Out (fun r => P (.bl r) M) (fun x => E (exE R x) M)
theorem ok_has_sign (R : Prg K mg) : FnD PR w K mg base 1 R.f_has_sign R.d_has_sign P_has_sign (S_has_sign R) := by
  refine fn_d false R.F_has_sign sc_has_sign (fun h => nomatch h) (fun ds M P E ⟨_, e, _⟩ => by rw [e]; rfl) fun cdv A outer s H E hr ds M Pd PE h => ?_
  obtain ⟨a_cells, rfl, h⟩ := h
  have hu := hr.units
  refine WS.ends ?_
  exact ws_ret <| ex_cmp <| ex_lcT [("cell", 1)] <| ei_str <| ex_var ⟨rfl, rfl⟩ <| ⟨a_cells, rfl, compT chD chD (xs := (signsL a_cells)) (ob h) trivial (fun x1 _ h s H C cl fp => gc_name  <| fun s H C cl fp => ef_one <| et_cmp <| ex_var ⟨rfl, rfl⟩ <| ex_str <| o_notInS <| ⟨_, rfl, cif h (fun h => fun s H C cl fp => ex_var ⟨rfl, rfl⟩ <| ⟨rfl, x1, rfl, h⟩) (fun h => ⟨rfl, h⟩)⟩) (fun l2 h => ex_lst <| ea_nil ⟨ln, r_neNilT chD hu <| (dN [] h)⟩)⟩

def S_Lean_changed (R : Prg K mg) : Spc := fun ds M P E => ∃ (a_self : Int) (a_cells : Str), ds = [((leanD R) a_self), (.str a_cells)] ∧ (m_Lean_changed a_self a_cells).Out (fun r => P (.str r) M) (fun x => E (exE R x) M)
theorem ok_Lean_changed (R : Prg K mg) : FnD PR w K mg base 2 R.f_Lean_changed R.d_Lean_changed P_Lean_changed (S_Lean_changed R) := by
  refine fn_d false R.F_Lean_changed sc_Lean_changed (fun h => nomatch h) (fun ds M P E ⟨_, _, e, _⟩ => by rw [e]; rfl) fun cdv A outer s H E hr ds M Pd PE h => ?_
  obtain ⟨a_self, a_cells, rfl, h⟩ := h
  have hu := hr.units
  refine WS.ends ?_
  refine ws_set <| ex_callF (ok_blocks_of R) (hr.mono (by decide)) R.m_blocks_of R.F_blocks_of R.b_blocks_of <| ea_cons <| ex_var ⟨rfl, rfl⟩ <| ea_cons <| ex_fld <| ex_var ⟨rfl, rfl⟩ <| ⟨_, ⟨_, R.L_Lean.cl, R.A_Lean_wide, .inl ⟨_, _, rfl, rfl, rfl⟩⟩, ea_nil <| ⟨a_cells, a_self, rfl, outU (ob h) (fun z1 h => ?_) (fun _ h => dX [] h)⟩⟩
  exact ws_ret <| ex_join <| ex_str <| ⟨.str, ea_cons <| ex_lcT [("block", 3)] <| ei_list <| ex_var ⟨rfl, rfl⟩ <| ⟨_, rfl, compT Dat.str Dat.str (xs := z1) (ob h) trivial (fun x2 _ h s H C cl fp => gc_name  <| fun s H C cl fp => ef_nil ⟨fun _ s H C cl fp => exJQ Dat.str (ob h) (fun _ h => ex_if <| et_val <| ex_callF (ok_has_sign R) (hr.mono (by decide)) R.m_has_sign R.F_has_sign R.b_has_sign <| ea_cons <| ex_var ⟨rfl, rfl⟩ <| ea_nil <| ⟨x2, rfl, outU (ob h) (fun z3 h => ⟨_, rfl, cif h (fun h => ex_callF (ok_filled R) (hr.mono (by decide)) R.m_filled R.F_filled R.b_filled <| ea_cons <| ex_var ⟨rfl, rfl⟩ <| ea_nil <| ⟨x2, rfl, outU (ob h) (fun z4 h => ⟨rfl, z4, rfl, h⟩) (fun _ h => h)⟩) (fun h => ex_bin <| ex_str <| ex_callB R.n_len PyProof.Rows.Boot.«len» <| ea_cons <| ex_var ⟨rfl, rfl⟩ <| ea_nil <| r_lenS (ob h) fun z5 h => r_repS (ob h) fun z6 h => ⟨rfl, z6, rfl, h⟩)⟩) (fun _ h => h)⟩) fun z7 h => ⟨rfl, z7, rfl, h⟩, fun z => nomatch z⟩) (fun l8 h => ea_nil <| r_joinS (xs := l8) (ob h) fun z9 h => (dN [] h))⟩⟩

def S_Dig_changed (R : Prg K mg) : Spc := fun ds M P E => ∃ (a_self : Int) (a_cells : Str), ds = [((digD R) a_self), (.str a_cells)] ∧ (m_Dig_changed a_self a_cells).Out (fun r => P (.str r) M) (fun x => E (exE R x) M)
theorem ok_Dig_changed (R : Prg K mg) : FnD PR w K mg base 2 R.f_Dig_changed R.d_Dig_changed P_Dig_changed (S_Dig_changed R) := by
  refine fn_d false R.F_Dig_changed sc_Dig_changed (fun h => nomatch h) (fun ds M P E ⟨_, _, e, _⟩ => by rw [e]; rfl) fun cdv A outer s H E hr ds M Pd PE h => ?_
  obtain ⟨a_self, a_cells, rfl, h⟩ := h
  have hu := hr.units
  refine WS.ends ?_
  refine ws_set <| ex_callF (ok_blocks_of R) (hr.mono (by decide)) R.m_blocks_of R.F_blocks_of R.b_blocks_of <| ea_cons <| ex_var ⟨rfl, rfl⟩ <| ea_cons <| ex_fld <| ex_var ⟨rfl, rfl⟩ <| ⟨_, ⟨_, R.L_Dig.cl, R.A_Dig_wide, .inl ⟨_, _, rfl, rfl, rfl⟩⟩, ea_nil <| ⟨a_cells, a_self, rfl, outU (ob h) (fun z1 h => ?_) (fun _ h => dX [] h)⟩⟩
  exact ws_ret <| ex_join <| ex_str <| ⟨.str, ea_cons <| ex_lcT [("block", 3)] <| ei_list <| ex_var ⟨rfl, rfl⟩ <| ⟨_, rfl, compT Dat.str Dat.str (xs := z1) (ob h) trivial (fun x2 _ h s H C cl fp => gc_name  <| fun s H C cl fp => ef_nil ⟨fun _ s H C cl fp => exJQ Dat.str (ob h) (fun _ h => ex_if <| et_val <| ex_callF (ok_has_sign R) (hr.mono (by decide)) R.m_has_sign R.F_has_sign R.b_has_sign <| ea_cons <| ex_var ⟨rfl, rfl⟩ <| ea_nil <| ⟨x2, rfl, outU (ob h) (fun z3 h => ⟨_, rfl, cif h (fun h => ex_var ⟨rfl, rfl⟩ <| ⟨rfl, x2, rfl, h⟩) (fun h => ex_bin <| ex_str <| ex_callB R.n_len PyProof.Rows.Boot.«len» <| ea_cons <| ex_var ⟨rfl, rfl⟩ <| ea_nil <| r_lenS (ob h) fun z4 h => r_repS (ob h) fun z5 h => ⟨rfl, z5, rfl, h⟩)⟩) (fun _ h => h)⟩) fun z6 h => ⟨rfl, z6, rfl, h⟩, fun z => nomatch z⟩) (fun l7 h => ea_nil <| r_joinS (xs := l7) (ob h) fun z8 h => (dN [] h))⟩⟩

def SD_Step_changed (R : Prg K mg) (s : StepT) : Spc := fun ds M P E => ∃ (a0 : Str), ds = [stepD R s, (.str a0)] ∧ (m_Step_changed s a0).Out (fun r => P (.str r) M) (fun x => E (exE R x) M)
theorem dp_Step_changed (R : Prg K mg) (s : StepT) {A : Around} (hr : Room 2 A) : ∃ C, MO PR w K mg base A C "changed" (SD_Step_changed R s) ∧ ∀ M, IsI C "changed" M (stepD R s) := by
  cases s with
  | full => exact ⟨R.C_Full, ⟨_, _, _, _, R.L_Full.cl, R.M_Full_changed, FnD.mono (ok_Full_changed R) (fun ds M P E ⟨a0, e, h⟩ => ⟨(), a0, e, h⟩), hr.mono (by decide), R.b_Full_changed⟩, fun M => .inl ⟨_, _, rfl, by decide⟩⟩
  | keep n => exact ⟨R.C_Keep, ⟨_, _, _, _, R.L_Keep.cl, R.M_Keep_changed, FnD.mono (ok_Keep_changed R) (fun ds M P E ⟨a0, e, h⟩ => ⟨n, a0, e, h⟩), hr.mono (by decide), R.b_Keep_changed⟩, fun M => .inl ⟨_, _, rfl, by decide⟩⟩
  | lean n => exact ⟨R.C_Lean, ⟨_, _, _, _, R.L_Lean.cl, R.M_Lean_changed, FnD.mono (ok_Lean_changed R) (fun ds M P E ⟨a0, e, h⟩ => ⟨n, a0, e, h⟩), hr.mono (by decide), R.b_Lean_changed⟩, fun M => .inl ⟨_, _, rfl, by decide⟩⟩
  | dig n => exact ⟨R.C_Dig, ⟨_, _, _, _, R.L_Dig.cl, R.M_Dig_changed, FnD.mono (ok_Dig_changed R) (fun ds M P E ⟨a0, e, h⟩ => ⟨n, a0, e, h⟩), hr.mono (by decide), R.b_Dig_changed⟩, fun M => .inl ⟨_, _, rfl, by decide⟩⟩

def S_File_cells (R : Prg K mg) : Spc := fun ds M P E => ∃ (a_self : Str), ds = [((fileD R) a_self)] ∧ (m_File_cells a_self).Out (fun r => P (.str r) M) (fun x => E (exE R x) M)
theorem ok_File_cells (R : Prg K mg) : FnD PR w K mg base 1 R.f_File_cells R.d_File_cells P_File_cells (S_File_cells R) := by
  refine fn_d false R.F_File_cells sc_File_cells (fun h => nomatch h) (fun ds M P E ⟨_, e, _⟩ => by rw [e]; rfl) fun cdv A outer s H E hr ds M Pd PE h => ?_
  obtain ⟨a_self, rfl, h⟩ := h
  have hu := hr.units
  refine WS.ends ?_
  exact ws_ret <| ex_fld <| ex_var ⟨rfl, rfl⟩ <| ⟨_, ⟨_, R.L_File.cl, R.A_File_row, .inl ⟨_, _, rfl, rfl, rfl⟩⟩, (dN [] h)⟩

def S_Step_play (R : Prg K mg) : Spc := fun ds M P E => ∃ (a_self : StepT) (a_file : Str), ds = [((stepD R) a_self), ((fileD R) a_file)] ∧ (m_Step_play a_self a_file).Out (fun r => P ((fileD R) r) M) (fun x => E (exE R x) M)
theorem ok_Step_play (R : Prg K mg) : FnD PR w K mg base 4 R.f_Step_play R.d_Step_play P_Step_play (S_Step_play R) := by
  refine fn_d false R.F_Step_play sc_Step_play (fun h => nomatch h) (fun ds M P E ⟨_, _, e, _⟩ => by rw [e]; rfl) fun cdv A outer s H E hr ds M Pd PE h => ?_
  obtain ⟨a_self, a_file, rfl, h⟩ := h
  have hu := hr.units
  refine WS.ends ?_
  refine ws_expr <| ex_callF (ok_check_file R) (hr.mono (by decide)) R.m_check_file R.F_check_file R.b_check_file <| ea_cons <| ex_var ⟨rfl, rfl⟩ <| ea_nil <| ⟨a_file, rfl, outU (ob h) (fun z1 h => ?_) (fun _ h => dX [] h)⟩
  exact ws_ret <| ex_make R.K_File (ok_File_init R) (hr.mono (by decide)) R.mc_File R.b_File_init .nil (fun _ => .nil) <| ea_cons <| ex_mv <| ex_var ⟨rfl, rfl⟩ <| mvD (dp_Step_changed R a_self (hr.mono (by decide))) <| ea_cons <| ex_prop R.L_File.cl R.V_File_cells (ok_File_cells R) (hr.mono (by decide)) R.b_File_cells <| ex_var ⟨rfl, rfl⟩ <| ⟨⟨"", .inl ⟨_, _, rfl, by decide⟩⟩, ap_all ⟨a_file, rfl, outU (ne_out (E' := fun _ => False) (ob h)) (fun z2 h => ea_nil <| ⟨z2, rfl, outU (ob h) (fun z3 h => ea_nil <| fun q dx _ _ _ => mk_File (ob h) (fun z4 h => (dN [] h)) (fun _ h => dX [_] h)) (fun _ h => dX [] h)⟩) (fun _ h => h.elim)⟩⟩

def SD_Step_play (R : Prg K mg) (s : StepT) : Spc := fun ds M P E => ∃ (a0 : Str), ds = [stepD R s, ((fileD R) a0)] ∧ (m_Step_play s a0).Out (fun r => P ((fileD R) r) M) (fun x => E (exE R x) M)
theorem dp_Step_play (R : Prg K mg) (s : StepT) {A : Around} (hr : Room 4 A) : ∃ C, MO PR w K mg base A C "play" (SD_Step_play R s) ∧ ∀ M, IsI C "play" M (stepD R s) := by
  cases s with
  | full => exact ⟨R.C_Full, ⟨_, _, _, _, R.L_Full.cl, R.M_Full_play, FnD.mono (ok_Step_play R) (fun ds M P E ⟨a0, e, h⟩ => ⟨StepT.full, a0, e, h⟩), hr.mono (by decide), R.b_Step_play⟩, fun M => .inl ⟨_, _, rfl, by decide⟩⟩
  | keep n => exact ⟨R.C_Keep, ⟨_, _, _, _, R.L_Keep.cl, R.M_Keep_play, FnD.mono (ok_Step_play R) (fun ds M P E ⟨a0, e, h⟩ => ⟨(.keep n), a0, e, h⟩), hr.mono (by decide), R.b_Step_play⟩, fun M => .inl ⟨_, _, rfl, by decide⟩⟩
  | lean n => exact ⟨R.C_Lean, ⟨_, _, _, _, R.L_Lean.cl, R.M_Lean_play, FnD.mono (ok_Step_play R) (fun ds M P E ⟨a0, e, h⟩ => ⟨(.lean n), a0, e, h⟩), hr.mono (by decide), R.b_Step_play⟩, fun M => .inl ⟨_, _, rfl, by decide⟩⟩
  | dig n => exact ⟨R.C_Dig, ⟨_, _, _, _, R.L_Dig.cl, R.M_Dig_play, FnD.mono (ok_Step_play R) (fun ds M P E ⟨a0, e, h⟩ => ⟨(.dig n), a0, e, h⟩), hr.mono (by decide), R.b_Step_play⟩, fun M => .inl ⟨_, _, rfl, by decide⟩⟩

def S_Script_traces (R : Prg K mg) : Spc := fun ds M P E => ∃ (a_self : (List StepT)) (a_file : Str), ds = [((scriptD R) a_self), ((fileD R) a_file)] ∧ (m_Script_traces a_self a_file).Out (fun r => P ((lstD (fileD R)) r) M) (fun x => E (exE R x) M)
theorem ok_Script_traces (R : Prg K mg) : FnD PR w K mg base 5 R.f_Script_traces R.d_Script_traces P_Script_traces (S_Script_traces R) := by
  refine fn_d false R.F_Script_traces sc_Script_traces (fun h => nomatch h) (fun ds M P E ⟨_, _, e, _⟩ => by rw [e]; rfl) fun cdv A outer s H E hr ds M Pd PE h => ?_
  obtain ⟨a_self, a_file, rfl, h⟩ := h
  have hu := hr.units
  refine WS.ends ?_
  refine ws_expr <| ex_callF (ok_check_file R) (hr.mono (by decide)) R.m_check_file R.F_check_file R.b_check_file <| ea_cons <| ex_var ⟨rfl, rfl⟩ <| ea_nil <| ⟨a_file, rfl, outU (ob h) (fun z1 h => ?_) (fun _ h => dX [] h)⟩
  refine ws_set <| ex_lstC <| ea_nil ⟨ln, fun q2 _ => ?_⟩
  refine ws_forT <| ei_tup <| ex_fld <| ex_var ⟨rfl, rfl⟩ <| ⟨_, ⟨_, R.L_Script.cl, R.A_Script_rows, .inl ⟨_, _, rfl, rfl, rfl⟩⟩, ⟨_, rfl, foldT (stepD R) (xs := a_self) (fun (s3 : (Str × (List Str))) τ M' => ∃ d3, [some ((scriptD R) a_self), some ((fileD R) s3.1), some (.raw (.ref q2)), d3] = τ ∧ (q2, .lst (s3.2.map (fileD R))) :: M = M') (ob h) ⟨_, rfl, rfl⟩ (fun _ _ _ _ => trivial) ?g11 ?g12⟩⟩
  case g11 =>
    rintro x4 s3 _ _ N ⟨d3, rfl, rfl⟩ h
    refine gx_name  <| ?_
    refine ws_set <| ex_mv <| ex_var ⟨rfl, rfl⟩ <| mvD (dp_Step_play R x4 (hr.mono (by decide))) <| ea_cons <| ex_var ⟨rfl, rfl⟩ <| ea_nil <| ⟨s3.1, rfl, outU (ob h) (fun z7 h => ?_) (fun _ h => dX [_] h)⟩
    refine ws_expr <| r_app [] (fileD R) (xs := s3.2) <| ex_var ⟨rfl, rfl⟩ ⟨rfl, rfl, ea_cons <| ex_var ⟨rfl, rfl⟩ <| ea_nil <| b_app [] (fileD R) (xs := s3.2) (x := z7) (ob h) fun z8 h => ?_⟩
    exact ws_nil ⟨(z7, z8), ⟨_, rfl, rfl⟩, h⟩
  case g12 =>
    rintro s3 _ _ ⟨d3, rfl, rfl⟩ h
    exact ws_ret <| ex_frz <| ex_var ⟨rfl, rfl⟩ ⟨_, _, _, rfl, (List.perm_middle (l₁ := [])), (dN [] h)⟩

def S_Script_play (R : Prg K mg) : Spc := fun ds M P E => ∃ (a_self : (List StepT)) (a_file : Str), ds = [((scriptD R) a_self), ((fileD R) a_file)] ∧ (m_Script_play a_self a_file).Out (fun r => P ((fileD R) r) M) (fun x => E (exE R x) M)
theorem ok_Script_play (R : Prg K mg) : FnD PR w K mg base 6 R.f_Script_play R.d_Script_play P_Script_play (S_Script_play R) := by
  refine fn_d false R.F_Script_play sc_Script_play (fun h => nomatch h) (fun ds M P E ⟨_, _, e, _⟩ => by rw [e]; rfl) fun cdv A outer s H E hr ds M Pd PE h => ?_
  obtain ⟨a_self, a_file, rfl, h⟩ := h
  have hu := hr.units
  refine WS.ends ?_
  refine ws_expr <| ex_callF (ok_check_file R) (hr.mono (by decide)) R.m_check_file R.F_check_file R.b_check_file <| ea_cons <| ex_var ⟨rfl, rfl⟩ <| ea_nil <| ⟨a_file, rfl, outU (ob h) (fun z1 h => ?_) (fun _ h => dX [] h)⟩
  exact ws_ret <| ex_ix <| ex_bin <| ex_lst <| ea_cons <| ex_var ⟨rfl, rfl⟩ <| ea_nil ⟨ln, ex_mv <| ex_var ⟨rfl, rfl⟩ <| mvD ⟨_, ⟨_, _, _, _, R.L_Script.cl, R.M_Script_traces, ok_Script_traces R, hr.mono (by decide), R.b_Script_traces⟩, fun M => .inl ⟨_, _, rfl, by decide⟩⟩ <| ea_cons <| ex_var ⟨rfl, rfl⟩ <| ea_nil <| ⟨a_self, a_file, rfl, outU (ob h) (fun z2 h => r_catL (fileD R) (xs := ([a_file] : List Str)) (ys := z2) (ob h) fun z3 h => ex_neg <| ex_int <| ⟨_, rfl, r_ix (fileD R) (xs := z3) (ob h) fun z4 h => (dN [] h)⟩) (fun _ h => dX [] h)⟩⟩

theorem eq_File (R : Prg K mg) (x y : Str) {A : Around} (hr : Room 2 A) : EqO PR w K mg base A (fileD R x) (fileD R y) (m_File_eq x y) :=
  ⟨R.C_File, _, _, _, _, _, .ref R.C_File, ok_File_eq R, hr.mono (by decide), R.M_File_eq, R.ne_File, R.L_File, R.b_File_eq, (fun _ => .inl ⟨_, _, rfl, by decide⟩), (fun _ => .obj R.L_File), nf_self, fun M P' E' h => ⟨x, y, rfl, out_mono h (fun _ h => h) (fun _ h => h.elim)⟩⟩
theorem inj_File (R : Prg K mg) : ∀ (G : Hp) (x y : Str) (a : Addr), Den K G (fileD R x) (.ref a) → Den K G (fileD R y) (.ref a) → x = y := fun G x y a d1 d2 => den_obj_str d1 d2
theorem eqs_File : ∀ x : Str, m_File_eq x x = .ok true := by
  intro x
  unfold m_File_eq
  rw [decide_eq_true rfl]; rfl

theorem dpk_Step_play_file (R : Prg K mg) (s : StepT) {A : Around} (hr : Room 4 A) : ∃ C, MK PR w K mg base A C "play" 1 ["file"] [.p 0, .k 0] (SD_Step_play R s) ∧ ∀ M, IsI C "play" M (stepD R s) := by
  cases s with
  | full => exact ⟨R.C_Full, ⟨_, _, _, _, R.L_Full.cl, R.M_Full_play, FnD.mono (ok_Step_play R) (fun ds M P E ⟨a0, e, h⟩ => ⟨StepT.full, a0, e, h⟩), hr.mono (by decide), R.kb_Step_play_1_file⟩, fun M => .inl ⟨_, _, rfl, by decide⟩⟩
  | keep n => exact ⟨R.C_Keep, ⟨_, _, _, _, R.L_Keep.cl, R.M_Keep_play, FnD.mono (ok_Step_play R) (fun ds M P E ⟨a0, e, h⟩ => ⟨(.keep n), a0, e, h⟩), hr.mono (by decide), R.kb_Step_play_1_file⟩, fun M => .inl ⟨_, _, rfl, by decide⟩⟩
  | lean n => exact ⟨R.C_Lean, ⟨_, _, _, _, R.L_Lean.cl, R.M_Lean_play, FnD.mono (ok_Step_play R) (fun ds M P E ⟨a0, e, h⟩ => ⟨(.lean n), a0, e, h⟩), hr.mono (by decide), R.kb_Step_play_1_file⟩, fun M => .inl ⟨_, _, rfl, by decide⟩⟩
  | dig n => exact ⟨R.C_Dig, ⟨_, _, _, _, R.L_Dig.cl, R.M_Dig_play, FnD.mono (ok_Step_play R) (fun ds M P E ⟨a0, e, h⟩ => ⟨(.dig n), a0, e, h⟩), hr.mono (by decide), R.kb_Step_play_1_file⟩, fun M => .inl ⟨_, _, rfl, by decide⟩⟩

def S_law_files_right (R : Prg K mg) : Spc := fun ds M P E => ∃ (a_w : Str) (a_u : Int) (a_v : Int), ds = [(.str a_w), (.int a_u), (.int a_v)] ∧ (m_law_files_right a_w a_u a_v).Out (fun r => P (.bl r) M) (fun x => E (exE R x) M)
theorem ok_law_files_right (R : Prg K mg) : FnD PR w K mg base 7 R.f_law_files_right R.d_law_files_right P_law_files_right (S_law_files_right R) := by
  refine fn_d false R.F_law_files_right sc_law_files_right (fun h => nomatch h) (fun ds M P E ⟨_, _, _, e, _⟩ => by rw [e]; rfl) fun cdv A outer s H E hr ds M Pd PE h => ?_
  obtain ⟨a_w, a_u, a_v, rfl, h⟩ := h
  have hu := hr.units
  refine WS.ends ?_
  refine ws_set <| ex_makeK0 R.K_File (ok_File_init R) (hr.mono (by decide)) R.mc_File R.kb_File_init_1_cells <| ek_cons <| ex_var ⟨rfl, rfl⟩ <| ek_nil ⟨rfl, fun q dx _ _ _ => mk_File (ob h) (fun z1 h => ?_) (fun _ h => dX [_] h)⟩
  refine ws_if <| et_w <| ew_or <| et_cmp <| ex_var ⟨rfl, rfl⟩ <| ex_make R.K_File (ok_File_init R) (hr.mono (by decide)) R.mc_File R.b_File_init .nil (fun _ => .nil) <| ea_cons <| ex_var ⟨rfl, rfl⟩ <| ea_nil <| fun q dx _ _ _ => mk_File (ob h) (fun z2 h => r_neOwn (ok_File_eq R) (hr.mono (by decide)) R.M_File_eq R.ne_File R.L_File R.b_File_eq (fun _ => .inl ⟨_, _, rfl, by decide⟩) (fun _ => .obj R.L_File) nf_self (fun _ _ h => ⟨z1, z2, rfl, out_mono h (fun _ h => h) (fun _ h => h.elim)⟩) (ob h) fun z3 h => ⟨_, rfl, cif h (fun h => ⟨fun _ => ?g4, fun z => nomatch z⟩) (fun h => ew_or <| et_cmp <| ex_mvK0 <| ex_var ⟨rfl, rfl⟩ <| mkD ⟨_, ⟨_, _, _, _, R.L_File.cl, R.M_File_cut, ok_File_cut R, hr.mono (by decide), R.kb_File_cut_1_length⟩, fun M => .inl ⟨_, _, rfl, by decide⟩⟩ rfl <| ek_cons <| ex_var ⟨rfl, rfl⟩ <| ek_nil ⟨rfl, z1, a_u, rfl, outU (ob h) (fun z5 h => ex_mv <| ex_var ⟨rfl, rfl⟩ <| mvD ⟨_, ⟨_, _, _, _, R.L_File.cl, R.M_File_cut, ok_File_cut R, hr.mono (by decide), R.b_File_cut⟩, fun M => .inl ⟨_, _, rfl, by decide⟩⟩ <| ea_cons <| ex_var ⟨rfl, rfl⟩ <| ea_nil <| ⟨z1, a_u, rfl, outU (ob h) (fun z6 h => r_neOwn (ok_File_eq R) (hr.mono (by decide)) R.M_File_eq R.ne_File R.L_File R.b_File_eq (fun _ => .inl ⟨_, _, rfl, by decide⟩) (fun _ => .obj R.L_File) nf_self (fun _ _ h => ⟨z5, z6, rfl, out_mono h (fun _ h => h) (fun _ h => h.elim)⟩) (ob h) fun z7 h => ⟨_, rfl, cif h (fun h => ⟨fun _ => ?g8, fun z => nomatch z⟩) (fun h => ew_or1 <| et_cmp <| ex_mvK0 <| ex_var ⟨rfl, rfl⟩ <| mkD ⟨_, ⟨_, _, _, _, R.L_File.cl, R.M_File_grown, ok_File_grown R, hr.mono (by decide), R.kb_File_grown_1_length⟩, fun M => .inl ⟨_, _, rfl, by decide⟩⟩ rfl <| ek_cons <| ex_bin <| ex_int <| ex_var ⟨rfl, rfl⟩ <| o_add <| ek_nil ⟨rfl, z1, ((9 : Int) + a_v), rfl, outU (ob h) (fun z9 h => ex_mv <| ex_var ⟨rfl, rfl⟩ <| mvD ⟨_, ⟨_, _, _, _, R.L_File.cl, R.M_File_grown, ok_File_grown R, hr.mono (by decide), R.b_File_grown⟩, fun M => .inl ⟨_, _, rfl, by decide⟩⟩ <| ea_cons <| ex_bin <| ex_int <| ex_var ⟨rfl, rfl⟩ <| o_add <| ea_nil <| ⟨z1, ((9 : Int) + a_v), rfl, outU (ob h) (fun z10 h => r_neOwn (ok_File_eq R) (hr.mono (by decide)) R.M_File_eq R.ne_File R.L_File R.b_File_eq (fun _ => .inl ⟨_, _, rfl, by decide⟩) (fun _ => .obj R.L_File) nf_self (fun _ _ h => ⟨z9, z10, rfl, out_mono h (fun _ h => h) (fun _ h => h.elim)⟩) (ob h) fun z11 h => ⟨_, rfl, cif h (fun h => ?g12) (fun h => ?g62)⟩) (fun _ h => dX [] h)⟩) (fun _ h => dX [] h)⟩)⟩) (fun _ h => dX [] h)⟩) (fun _ h => dX [] h)⟩)⟩) (fun _ h => dX [_] h)
  case g4 =>
    exact ws_ret <| ex_bl <| (dN [] h)
  case g8 =>
    exact ws_ret <| ex_bl <| (dN [] h)
  case g12 =>
    exact ws_ret <| ex_bl <| (dN [] h)
  case g62 =>
    refine ws_nil ?_
    refine ws_if <| et_cmp <| ex_mvK0 <| ex_var ⟨rfl, rfl⟩ <| mkD ⟨_, ⟨_, _, _, _, R.L_File.cl, R.M_File_punched, ok_File_punched R, hr.mono (by decide), R.kb_File_punched_1_size_end_begin⟩, fun M => .inl ⟨_, _, rfl, by decide⟩⟩ rfl <| ek_cons <| ex_int <| ek_cons <| ex_bin <| ex_var ⟨rfl, rfl⟩ <| ex_var ⟨rfl, rfl⟩ <| o_add <| ek_cons <| ex_var ⟨rfl, rfl⟩ <| ek_nil ⟨rfl, z1, a_u, (a_u + a_v), (2 : Int), rfl, outU (ob h) (fun z13 h => ex_mv <| ex_var ⟨rfl, rfl⟩ <| mvD ⟨_, ⟨_, _, _, _, R.L_File.cl, R.M_File_punched, ok_File_punched R, hr.mono (by decide), R.b_File_punched⟩, fun M => .inl ⟨_, _, rfl, by decide⟩⟩ <| ea_cons <| ex_var ⟨rfl, rfl⟩ <| ea_cons <| ex_bin <| ex_var ⟨rfl, rfl⟩ <| ex_var ⟨rfl, rfl⟩ <| o_add <| ea_cons <| ex_int <| ea_nil <| ⟨z1, a_u, (a_u + a_v), (2 : Int), rfl, outU (ob h) (fun z14 h => r_neOwn (ok_File_eq R) (hr.mono (by decide)) R.M_File_eq R.ne_File R.L_File R.b_File_eq (fun _ => .inl ⟨_, _, rfl, by decide⟩) (fun _ => .obj R.L_File) nf_self (fun _ _ h => ⟨z13, z14, rfl, out_mono h (fun _ h => h) (fun _ h => h.elim)⟩) (ob h) fun z15 h => ⟨_, rfl, cif h (fun h => ?g16) (fun h => ?g61)⟩) (fun _ h => dX [] h)⟩) (fun _ h => dX [] h)⟩
    case g16 =>
      exact ws_ret <| ex_bl <| (dN [] h)
    case g61 =>
      refine ws_nil ?_
      refine ws_if <| et_w <| ew_or <| et_cmp <| ex_makeK0 R.K_Keep (ok_Keep_init R) (hr.mono (by decide)) R.mc_Keep R.kb_Keep_init_1_size <| ek_cons <| ex_bin <| ex_var ⟨rfl, rfl⟩ <| ex_int <| o_add <| ek_nil ⟨rfl, fun q dx _ _ _ => mk_Keep (ob h) (fun z17 h => ex_make R.K_Keep (ok_Keep_init R) (hr.mono (by decide)) R.mc_Keep R.b_Keep_init .nil (fun _ => .nil) <| ea_cons <| ex_bin <| ex_var ⟨rfl, rfl⟩ <| ex_int <| o_add <| ea_nil <| fun q dx _ _ _ => mk_Keep (ob h) (fun z18 h => r_neOwn (ok_Keep_eq R) (hr.mono (by decide)) R.M_Keep_eq R.ne_Keep R.L_Keep R.b_Keep_eq (fun _ => .inl ⟨_, _, rfl, by decide⟩) (fun _ => .obj R.L_Keep) nf_self (fun _ _ h => ⟨z17, z18, rfl, out_mono h (fun _ h => h) (fun _ h => h.elim)⟩) (ob h) fun z19 h => ⟨_, rfl, cif h (fun h => ⟨fun _ => ?g20, fun z => nomatch z⟩) (fun h => ew_or <| et_cmp <| ex_makeK0 R.K_Lean (ok_Lean_init R) (hr.mono (by decide)) R.mc_Lean R.kb_Lean_init_1_size <| ek_cons <| ex_bin <| ex_var ⟨rfl, rfl⟩ <| ex_int <| o_add <| ek_nil ⟨rfl, fun q dx _ _ _ => mk_Lean (ob h) (fun z21 h => ex_make R.K_Lean (ok_Lean_init R) (hr.mono (by decide)) R.mc_Lean R.b_Lean_init .nil (fun _ => .nil) <| ea_cons <| ex_bin <| ex_var ⟨rfl, rfl⟩ <| ex_int <| o_add <| ea_nil <| fun q dx _ _ _ => mk_Lean (ob h) (fun z22 h => r_neOwn (ok_Lean_eq R) (hr.mono (by decide)) R.M_Lean_eq R.ne_Lean R.L_Lean R.b_Lean_eq (fun _ => .inl ⟨_, _, rfl, by decide⟩) (fun _ => .obj R.L_Lean) nf_self (fun _ _ h => ⟨z21, z22, rfl, out_mono h (fun _ h => h) (fun _ h => h.elim)⟩) (ob h) fun z23 h => ⟨_, rfl, cif h (fun h => ⟨fun _ => ?g24, fun z => nomatch z⟩) (fun h => ew_or1 <| et_cmp <| ex_makeK0 R.K_Dig (ok_Dig_init R) (hr.mono (by decide)) R.mc_Dig R.kb_Dig_init_1_size <| ek_cons <| ex_bin <| ex_var ⟨rfl, rfl⟩ <| ex_int <| o_add <| ek_nil ⟨rfl, fun q dx _ _ _ => mk_Dig (ob h) (fun z25 h => ex_make R.K_Dig (ok_Dig_init R) (hr.mono (by decide)) R.mc_Dig R.b_Dig_init .nil (fun _ => .nil) <| ea_cons <| ex_bin <| ex_var ⟨rfl, rfl⟩ <| ex_int <| o_add <| ea_nil <| fun q dx _ _ _ => mk_Dig (ob h) (fun z26 h => r_neOwn (ok_Dig_eq R) (hr.mono (by decide)) R.M_Dig_eq R.ne_Dig R.L_Dig R.b_Dig_eq (fun _ => .inl ⟨_, _, rfl, by decide⟩) (fun _ => .obj R.L_Dig) nf_self (fun _ _ h => ⟨z25, z26, rfl, out_mono h (fun _ h => h) (fun _ h => h.elim)⟩) (ob h) fun z27 h => ⟨_, rfl, cif h (fun h => ?g28) (fun h => ?g60)⟩) (fun _ h => dX [_] h)) (fun _ h => dX [_] h)⟩)⟩) (fun _ h => dX [_] h)) (fun _ h => dX [_] h)⟩)⟩) (fun _ h => dX [_] h)) (fun _ h => dX [_] h)⟩
      case g20 =>
        exact ws_ret <| ex_bl <| (dN [] h)
      case g24 =>
        exact ws_ret <| ex_bl <| (dN [] h)
      case g28 =>
        exact ws_ret <| ex_bl <| (dN [] h)
      case g60 =>
        refine ws_nil ?_
        refine ws_set <| ex_makeK0 R.K_Script (ok_Script_init R) (hr.mono (by decide)) R.mc_Script R.kb_Script_init_1_steps <| ek_cons <| ex_lst <| ea_cons <| ex_make R.K_Keep (ok_Keep_init R) (hr.mono (by decide)) R.mc_Keep R.b_Keep_init .nil (fun _ => .nil) <| ea_cons <| ex_int <| ea_nil <| fun q dx _ _ _ => mk_Keep (ob h) (fun z29 h => ea_cons <| ex_make R.K_Dig (ok_Dig_init R) (hr.mono (by decide)) R.mc_Dig R.b_Dig_init .nil (fun _ => .nil) <| ea_cons <| ex_bin <| ex_var ⟨rfl, rfl⟩ <| ex_int <| o_add <| ea_nil <| fun q dx _ _ _ => mk_Dig (ob h) (fun z30 h => ea_cons <| ex_new0 R.K_Full R.mc_Full fun q dx _ _ _ => made_ok (fs := []) <| ea_nil ⟨ln, ek_nil ⟨rfl, fun q dx _ _ _ => mk_Script (ob h) (fun z31 h => ?_) (fun _ h => dX [_] h)⟩⟩) (fun _ h => dX [_] h)) (fun _ h => dX [_] h)
        refine ws_if <| et_w <| ew_or <| et_cmp <| ex_var ⟨rfl, rfl⟩ <| ex_make R.K_Script (ok_Script_init R) (hr.mono (by decide)) R.mc_Script R.b_Script_init .nil (fun _ => .nil) <| ea_cons <| ex_lst <| ea_cons <| ex_make R.K_Keep (ok_Keep_init R) (hr.mono (by decide)) R.mc_Keep R.b_Keep_init .nil (fun _ => .nil) <| ea_cons <| ex_int <| ea_nil <| fun q dx _ _ _ => mk_Keep (ob h) (fun z32 h => ea_cons <| ex_make R.K_Dig (ok_Dig_init R) (hr.mono (by decide)) R.mc_Dig R.b_Dig_init .nil (fun _ => .nil) <| ea_cons <| ex_bin <| ex_var ⟨rfl, rfl⟩ <| ex_int <| o_add <| ea_nil <| fun q dx _ _ _ => mk_Dig (ob h) (fun z33 h => ea_cons <| ex_new0 R.K_Full R.mc_Full fun q dx _ _ _ => made_ok (fs := []) <| ea_nil ⟨ln, ea_nil <| fun q dx _ _ _ => mk_Script (ob h) (fun z34 h => r_neOwn (ok_Script_eq R) (hr.mono (by decide)) R.M_Script_eq R.ne_Script R.L_Script R.b_Script_eq (fun _ => .inl ⟨_, _, rfl, by decide⟩) (fun _ => .obj R.L_Script) nf_self (fun _ _ h => ⟨z31, z34, rfl, out_mono h (fun _ h => h) (fun _ h => h.elim)⟩) (ob h) fun z35 h => ⟨_, rfl, cif h (fun h => ⟨fun _ => ?g36, fun z => nomatch z⟩) (fun h => ew_or1 <| et_cmp <| ex_mvK0 <| ex_var ⟨rfl, rfl⟩ <| mkD ⟨_, ⟨_, _, _, _, R.L_Script.cl, R.M_Script_without, ok_Script_without R, hr.mono (by decide), R.kb_Script_without_1_k⟩, fun M => .inl ⟨_, _, rfl, by decide⟩⟩ rfl <| ek_cons <| ex_int <| ek_nil ⟨rfl, z31, (1 : Int), rfl, outU (ob h) (fun z37 h => ex_mv <| ex_var ⟨rfl, rfl⟩ <| mvD ⟨_, ⟨_, _, _, _, R.L_Script.cl, R.M_Script_without, ok_Script_without R, hr.mono (by decide), R.b_Script_without⟩, fun M => .inl ⟨_, _, rfl, by decide⟩⟩ <| ea_cons <| ex_int <| ea_nil <| ⟨z31, (1 : Int), rfl, outU (ob h) (fun z38 h => r_neOwn (ok_Script_eq R) (hr.mono (by decide)) R.M_Script_eq R.ne_Script R.L_Script R.b_Script_eq (fun _ => .inl ⟨_, _, rfl, by decide⟩) (fun _ => .obj R.L_Script) nf_self (fun _ _ h => ⟨z37, z38, rfl, out_mono h (fun _ h => h) (fun _ h => h.elim)⟩) (ob h) fun z39 h => ⟨_, rfl, cif h (fun h => ?g40) (fun h => ?g58)⟩) (fun _ h => dX [] h)⟩) (fun _ h => dX [] h)⟩)⟩) (fun _ h => dX [_] h)⟩) (fun _ h => dX [_] h)) (fun _ h => dX [_] h)
        case g36 =>
          exact ws_ret <| ex_bl <| (dN [] h)
        case g40 =>
          exact ws_ret <| ex_bl <| (dN [] h)
        case g58 =>
          refine ws_nil ?_
          refine ws_if <| et_w <| ew_or <| et_cmp <| ex_mvK0 <| ex_var ⟨rfl, rfl⟩ <| mkD ⟨_, ⟨_, _, _, _, R.L_Script.cl, R.M_Script_play, ok_Script_play R, hr.mono (by decide), R.kb_Script_play_1_file⟩, fun M => .inl ⟨_, _, rfl, by decide⟩⟩ rfl <| ek_cons <| ex_var ⟨rfl, rfl⟩ <| ek_nil ⟨rfl, z31, z1, rfl, outU (ob h) (fun z41 h => ex_mv <| ex_var ⟨rfl, rfl⟩ <| mvD ⟨_, ⟨_, _, _, _, R.L_Script.cl, R.M_Script_play, ok_Script_play R, hr.mono (by decide), R.b_Script_play⟩, fun M => .inl ⟨_, _, rfl, by decide⟩⟩ <| ea_cons <| ex_var ⟨rfl, rfl⟩ <| ea_nil <| ⟨z31, z1, rfl, outU (ob h) (fun z42 h => r_neOwn (ok_File_eq R) (hr.mono (by decide)) R.M_File_eq R.ne_File R.L_File R.b_File_eq (fun _ => .inl ⟨_, _, rfl, by decide⟩) (fun _ => .obj R.L_File) nf_self (fun _ _ h => ⟨z41, z42, rfl, out_mono h (fun _ h => h) (fun _ h => h.elim)⟩) (ob h) fun z43 h => ⟨_, rfl, cif h (fun h => ⟨fun _ => ?g44, fun z => nomatch z⟩) (fun h => ew_or1 <| et_cmp <| ex_mvK0 <| ex_var ⟨rfl, rfl⟩ <| mkD ⟨_, ⟨_, _, _, _, R.L_Script.cl, R.M_Script_traces, ok_Script_traces R, hr.mono (by decide), R.kb_Script_traces_1_file⟩, fun M => .inl ⟨_, _, rfl, by decide⟩⟩ rfl <| ek_cons <| ex_var ⟨rfl, rfl⟩ <| ek_nil ⟨rfl, z31, z1, rfl, outU (ob h) (fun z45 h => ex_mv <| ex_var ⟨rfl, rfl⟩ <| mvD ⟨_, ⟨_, _, _, _, R.L_Script.cl, R.M_Script_traces, ok_Script_traces R, hr.mono (by decide), R.b_Script_traces⟩, fun M => .inl ⟨_, _, rfl, by decide⟩⟩ <| ea_cons <| ex_var ⟨rfl, rfl⟩ <| ea_nil <| ⟨z31, z1, rfl, outU (ob h) (fun z46 h => r_neLO (f := fileD R) (me := m_File_eq) (xs := z45) (ys := z46) ⟨fun x y => eq_File R x y (hr.mono (by decide)).in1, fun _ => rfl, inj_File R, eqs_File⟩ hu (.inl rfl) (.inl rfl) (ob h) fun z47 h => ⟨_, rfl, cif h (fun h => ?g48) (fun h => ?g57)⟩) (fun _ h => dX [] h)⟩) (fun _ h => dX [] h)⟩)⟩) (fun _ h => dX [] h)⟩) (fun _ h => dX [] h)⟩
          case g44 =>
            exact ws_ret <| ex_bl <| (dN [] h)
          case g48 =>
            exact ws_ret <| ex_bl <| (dN [] h)
          case g57 =>
            refine ws_nil ?_
            exact ws_ret <| ex_cmp <| ex_lcT [("y", 5)] <| ei_list <| ex_lst <| ea_cons <| ex_new0 R.K_Full R.mc_Full fun q dx _ _ _ => made_ok (fs := []) <| ea_cons <| ex_make R.K_Keep (ok_Keep_init R) (hr.mono (by decide)) R.mc_Keep R.b_Keep_init .nil (fun _ => .nil) <| ea_cons <| ex_int <| ea_nil <| fun q dx _ _ _ => mk_Keep (ob h) (fun z49 h => ea_cons <| ex_make R.K_Lean (ok_Lean_init R) (hr.mono (by decide)) R.mc_Lean R.b_Lean_init .nil (fun _ => .nil) <| ea_cons <| ex_int <| ea_nil <| fun q dx _ _ _ => mk_Lean (ob h) (fun z50 h => ea_cons <| ex_make R.K_Dig (ok_Dig_init R) (hr.mono (by decide)) R.mc_Dig R.b_Dig_init .nil (fun _ => .nil) <| ea_cons <| ex_int <| ea_nil <| fun q dx _ _ _ => mk_Dig (ob h) (fun z51 h => ea_nil ⟨ln, ⟨_, rfl, compT (stepD R) (stepD R) (xs := ([StepT.full, (StepT.keep z49), (StepT.lean z50), (StepT.dig z51)] : List StepT)) (ob h) trivial (fun x52 _ h s H C cl fp => gc_name  <| fun s H C cl fp => ef_one <| et_cmp <| ex_mvK0 <| ex_var ⟨rfl, rfl⟩ <| mkD (dpk_Step_play_file R x52 (hr.mono (by decide))) rfl <| ek_cons <| ex_var ⟨rfl, rfl⟩ <| ek_nil ⟨rfl, z1, rfl, outU (ob h) (fun z53 h => ex_mv <| ex_var ⟨rfl, rfl⟩ <| mvD (dp_Step_play R x52 (hr.mono (by decide))) <| ea_cons <| ex_var ⟨rfl, rfl⟩ <| ea_nil <| ⟨z1, rfl, outU (ob h) (fun z54 h => r_neOwn (ok_File_eq R) (hr.mono (by decide)) R.M_File_eq R.ne_File R.L_File R.b_File_eq (fun _ => .inl ⟨_, _, rfl, by decide⟩) (fun _ => .obj R.L_File) nf_self (fun _ _ h => ⟨z53, z54, rfl, out_mono h (fun _ h => h) (fun _ h => h.elim)⟩) (ob h) fun z55 h => ⟨_, rfl, cif h (fun h => fun s H C cl fp => ex_var ⟨rfl, rfl⟩ <| ⟨rfl, x52, rfl, h⟩) (fun h => ⟨rfl, h⟩)⟩) (fun _ h => h)⟩) (fun _ h => h)⟩) (fun l56 h => ex_lst <| ea_nil ⟨ln, r_eqNilT (stepD R) hu <| (dN [] h)⟩)⟩⟩) (fun _ h => dX [_] h)) (fun _ h => dX [_] h)) (fun _ h => dX [_] h)

def S_check_script (R : Prg K mg) : Spc := fun ds M P E => ∃ (a_value : (List StepT)), ds = [((scriptD R) a_value)] ∧ (m_check_script a_value).Out (fun r => P .non M) (fun x => E (exE R x) M)
theorem ok_check_script (R : Prg K mg) : FnD PR w K mg base 1 R.f_check_script R.d_check_script P_check_script (S_check_script R) := by
  refine fn_d false R.F_check_script sc_check_script (fun h => nomatch h) (fun ds M P E ⟨_, e, _⟩ => by rw [e]; rfl) fun cdv A outer s H E hr ds M Pd PE h => ?_
  obtain ⟨a_value, rfl, h⟩ := h
  have hu := hr.units
  refine WS.ends ?_
  refine ws_if <| et_not <| et_val <| ex_callB R.n_isinstance PyProof.Rows.Boot.«isinstance» <| ea_cons <| ex_var ⟨rfl, rfl⟩ <| ea_cons <| ex_gref R.mc_Script <| ea_nil <| c_isi (k := true) (.own _) (.obj R.L_Script) R.s_Script_Script <| ⟨_, rfl, (fun z => absurd z (by decide)), fun _ => ?_⟩
  refine ws_nil ?_
  exact ws_nil (dN [] h)

def S_check_two (R : Prg K mg) : Spc := fun ds M P E => ∃ (a_one : (List StepT)) (a_other : (List StepT)), ds = [((scriptD R) a_one), ((scriptD R) a_other)] ∧ (m_check_two a_one a_other).Out (fun r => P .non M) (fun x => E (exE R x) M)
theorem ok_check_two (R : Prg K mg) : FnD PR w K mg base 2 R.f_check_two R.d_check_two P_check_two (S_check_two R) := by
  refine fn_d false R.F_check_two sc_check_two (fun h => nomatch h) (fun ds M P E ⟨_, _, e, _⟩ => by rw [e]; rfl) fun cdv A outer s H E hr ds M Pd PE h => ?_
  obtain ⟨a_one, a_other, rfl, h⟩ := h
  have hu := hr.units
  refine WS.ends ?_
  refine ws_expr <| ex_callF (ok_check_script R) (hr.mono (by decide)) R.m_check_script R.F_check_script R.b_check_script <| ea_cons <| ex_var ⟨rfl, rfl⟩ <| ea_nil <| ⟨a_one, rfl, outU (ob h) (fun z1 h => ?_) (fun _ h => dX [] h)⟩
  refine ws_expr <| ex_callF (ok_check_script R) (hr.mono (by decide)) R.m_check_script R.F_check_script R.b_check_script <| ea_cons <| ex_var ⟨rfl, rfl⟩ <| ea_nil <| ⟨a_other, rfl, outU (ob h) (fun z2 h => ?_) (fun _ h => dX [] h)⟩
  exact ws_nil (dN [] h)

theorem gcd_step {a b : Int} (ha : 0 ≤ a) (hb : 0 ≤ b) : Int.gcd b (a % b) = Int.gcd a b := by
  obtain ⟨m, rfl⟩ := Int.eq_ofNat_of_zero_le ha
  obtain ⟨n, rfl⟩ := Int.eq_ofNat_of_zero_le hb
  show Nat.gcd n (m % n) = Nat.gcd m n
  rw [Nat.gcd_comm n, ← Nat.gcd_rec, Nat.gcd_comm]
def S_divisor_of (R : Prg K mg) : Spc := fun ds M P E => ∃ a b : Int, ds = [.int a, .int b] ∧ (m_divisor_of a b).Out (fun r => P (.int r) M) (fun x => E (exE R x) M)
theorem ok_divisor_of (R : Prg K mg) : FnD PR w K mg base 1 R.f_divisor_of R.d_divisor_of P_divisor_of (S_divisor_of R) := by
  refine fn_d false R.F_divisor_of sc_divisor_of (fun h => nomatch h) (fun ds M P E ⟨a, b, e, _⟩ => by rw [e]; rfl) fun cdv A outer s H E hr ds M Pd PE h => ?_
  obtain ⟨a, b, rfl, h⟩ := h
  obtain ⟨⟨ha, hb⟩, hp⟩ := gd h
  refine ws_while (fun m τ' M' => M' = M ∧ ∃ a' b' : Int, τ' = [some (.int a'), some (.int b')] ∧ 0 ≤ a' ∧ 0 ≤ b' ∧ Int.gcd a' b' = Int.gcd a b ∧ m = b'.toNat) ⟨_, rfl, a, b, rfl, ha, hb, rfl, rfl⟩ ?_
  rintro m τ' M' ⟨rfl, a', b', rfl, h1, h2, h3, rfl⟩
  refine et_cmp (ex_var ⟨rfl, rfl⟩ (ex_int (o_neI ⟨_, rfl, fun e => ?_, fun e => ?_⟩)))
  · have e : ¬ b' = 0 := by simpa using e
    have hpos : 0 < b' := by omega
    refine ws_par <| ea_cons <| ex_var ⟨rfl, rfl⟩ <| ea_cons <| ex_bin <| ex_callTy R.n_int PyProof.Rows.Boot.«int» <| ea_cons <| ex_var ⟨rfl, rfl⟩ <| ea_nil <| c_int_i <| ex_var ⟨rfl, rfl⟩ <| o_mod hpos <| ea_nil ⟨_, _, rfl, ws_nil ?_⟩
    refine ⟨_, ?_, rfl, b', a' % b', rfl, h2, Int.emod_nonneg _ e, (gcd_step h1 h2).trans h3, rfl⟩
    have := Int.emod_lt_of_pos a' hpos
    have := Int.emod_nonneg a' e
    omega
  · have e : b' = 0 := by simpa using e
    subst e
    refine ws_ret (ex_var ⟨rfl, rfl⟩ ?_)
    have : ((Int.gcd a b : Nat) : Int) = a' := by
      rw [← h3, Int.gcd_zero_right]
      omega
    rw [this] at hp
    exact hp

def S_multiple_of (R : Prg K mg) : Spc := fun ds M P E => ∃ (a_numbers : (List Int)), ds = [((lstD Dat.int) a_numbers)] ∧ (m_multiple_of a_numbers).Out (fun r => P (.int r) M) (fun x => E (exE R x) M)
theorem ok_multiple_of (R : Prg K mg) : FnD PR w K mg base 2 R.f_multiple_of R.d_multiple_of P_multiple_of (S_multiple_of R) := by
  refine fn_d false R.F_multiple_of sc_multiple_of (fun h => nomatch h) (fun ds M P E ⟨_, e, _⟩ => by rw [e]; rfl) fun cdv A outer s H E hr ds M Pd PE h => ?_
  obtain ⟨a_numbers, rfl, h⟩ := h
  have hu := hr.units
  refine WS.ends ?_
  refine ws_set <| ex_int <| ?_
  refine ws_forT <| ei_list <| ex_var ⟨rfl, rfl⟩ <| ⟨_, rfl, foldT Dat.int (xs := a_numbers) (fun (s1 : Int) τ M' => ∃ d2, [some ((lstD Dat.int) a_numbers), some (.int s1), d2] = τ ∧ M = M') (ob h) ⟨_, rfl, rfl⟩ (fun _ _ _ _ => trivial) ?g9 ?g10⟩
  case g9 =>
    rintro x2 s1 _ _ N ⟨d2, rfl, rfl⟩ h
    refine gx_name  <| ?_
    refine ws_set <| ex_bin <| ex_bin <| ex_var ⟨rfl, rfl⟩ <| ex_callF (ok_divisor_of R) (hr.mono (by decide)) R.m_divisor_of R.F_divisor_of R.b_divisor_of <| ea_cons <| ex_var ⟨rfl, rfl⟩ <| ea_cons <| ex_var ⟨rfl, rfl⟩ <| ea_nil <| ⟨s1, x2, rfl, outU (ob h) (fun z5 h => r_div (ob h) fun z6 h => ex_var ⟨rfl, rfl⟩ <| r_mul (ob h) fun z7 h => ?_) (fun _ h => dX [] h)⟩
    exact ws_nil ⟨z7, ⟨_, rfl, rfl⟩, h⟩
  case g10 =>
    rintro s1 _ _ ⟨d2, rfl, rfl⟩ h
    exact ws_ret <| ex_var ⟨rfl, rfl⟩ <| (dN [] h)

def S_Keep_size (R : Prg K mg) : Spc := fun ds M P E => ∃ (a_self : Int), ds = [((keepD R) a_self)] ∧ (m_Keep_size a_self).Out (fun r => P (.int r) M) (fun x => E (exE R x) M)
theorem ok_Keep_size (R : Prg K mg) : FnD PR w K mg base 1 R.f_Keep_size R.d_Keep_size P_Keep_size (S_Keep_size R) := by
  refine fn_d false R.F_Keep_size sc_Keep_size (fun h => nomatch h) (fun ds M P E ⟨_, e, _⟩ => by rw [e]; rfl) fun cdv A outer s H E hr ds M Pd PE h => ?_
  obtain ⟨a_self, rfl, h⟩ := h
  have hu := hr.units
  refine WS.ends ?_
  exact ws_ret <| ex_fld <| ex_var ⟨rfl, rfl⟩ <| ⟨_, ⟨_, R.L_Keep.cl, R.A_Keep_wide, .inl ⟨_, _, rfl, rfl, rfl⟩⟩, (dN [] h)⟩

def S_Lean_size (R : Prg K mg) : Spc := fun ds M P E => ∃ (a_self : Int), ds = [((leanD R) a_self)] ∧ (m_Lean_size a_self).Out (fun r => P (.int r) M) (fun x => E (exE R x) M)
theorem ok_Lean_size (R : Prg K mg) : FnD PR w K mg base 1 R.f_Lean_size R.d_Lean_size P_Lean_size (S_Lean_size R) := by
  refine fn_d false R.F_Lean_size sc_Lean_size (fun h => nomatch h) (fun ds M P E ⟨_, e, _⟩ => by rw [e]; rfl) fun cdv A outer s H E hr ds M Pd PE h => ?_
  obtain ⟨a_self, rfl, h⟩ := h
  have hu := hr.units
  refine WS.ends ?_
  exact ws_ret <| ex_fld <| ex_var ⟨rfl, rfl⟩ <| ⟨_, ⟨_, R.L_Lean.cl, R.A_Lean_wide, .inl ⟨_, _, rfl, rfl, rfl⟩⟩, (dN [] h)⟩

def S_Dig_size (R : Prg K mg) : Spc := fun ds M P E => ∃ (a_self : Int), ds = [((digD R) a_self)] ∧ (m_Dig_size a_self).Out (fun r => P (.int r) M) (fun x => E (exE R x) M)
theorem ok_Dig_size (R : Prg K mg) : FnD PR w K mg base 1 R.f_Dig_size R.d_Dig_size P_Dig_size (S_Dig_size R) := by
  refine fn_d false R.F_Dig_size sc_Dig_size (fun h => nomatch h) (fun ds M P E ⟨_, e, _⟩ => by rw [e]; rfl) fun cdv A outer s H E hr ds M Pd PE h => ?_
  obtain ⟨a_self, rfl, h⟩ := h
  have hu := hr.units
  refine WS.ends ?_
  exact ws_ret <| ex_fld <| ex_var ⟨rfl, rfl⟩ <| ⟨_, ⟨_, R.L_Dig.cl, R.A_Dig_wide, .inl ⟨_, _, rfl, rfl, rfl⟩⟩, (dN [] h)⟩

theorem pr_Step_size (R : Prg K mg) (s : StepT) {A : Around} (hr : Room 2 A) : PrD PR w K mg base A "size" (stepD R s) (m_Step_size s) Dat.int := by
  intro M P E1 h
  cases s with
  | full => exact h.elim
  | keep n => exact ⟨_, _, _, _, _, _, _, R.L_Keep.cl, R.V_Keep_size, ok_Keep_size R, hr.mono (by decide), R.b_Keep_size, ⟨"", fun M => .inl ⟨_, _, rfl, by decide⟩⟩, ⟨n, rfl, out_mono (ne_out (E' := fun _ => False) h) (fun r q => UpP.mk q) (fun _ z => z.elim)⟩⟩
  | lean n => exact ⟨_, _, _, _, _, _, _, R.L_Lean.cl, R.V_Lean_size, ok_Lean_size R, hr.mono (by decide), R.b_Lean_size, ⟨"", fun M => .inl ⟨_, _, rfl, by decide⟩⟩, ⟨n, rfl, out_mono (ne_out (E' := fun _ => False) h) (fun r q => UpP.mk q) (fun _ z => z.elim)⟩⟩
  | dig n => exact ⟨_, _, _, _, _, _, _, R.L_Dig.cl, R.V_Dig_size, ok_Dig_size R, hr.mono (by decide), R.b_Dig_size, ⟨"", fun M => .inl ⟨_, _, rfl, by decide⟩⟩, ⟨n, rfl, out_mono (ne_out (E' := fun _ => False) h) (fun r q => UpP.mk q) (fun _ z => z.elim)⟩⟩

def S_Script_period (R : Prg K mg) : Spc := fun ds M P E => ∃ (a_self : (List StepT)), ds = [((scriptD R) a_self)] ∧ (m_Script_period a_self).Out (fun r => P (.int r) M) (fun x => E (exE R x) M)
theorem ok_Script_period (R : Prg K mg) : FnD PR w K mg base 3 R.f_Script_period R.d_Script_period P_Script_period (S_Script_period R) := by
  refine fn_d false R.F_Script_period sc_Script_period (fun h => nomatch h) (fun ds M P E ⟨_, e, _⟩ => by rw [e]; rfl) fun cdv A outer s H E hr ds M Pd PE h => ?_
  obtain ⟨a_self, rfl, h⟩ := h
  have hu := hr.units
  refine WS.ends ?_
  exact ws_ret <| ex_callF (ok_multiple_of R) (hr.mono (by decide)) R.m_multiple_of R.F_multiple_of R.b_multiple_of <| ea_cons <| ex_lcT [("step", 1)] <| ei_tup <| ex_fld <| ex_var ⟨rfl, rfl⟩ <| ⟨_, ⟨_, R.L_Script.cl, R.A_Script_rows, .inl ⟨_, _, rfl, rfl, rfl⟩⟩, ⟨_, rfl, compT (stepD R) Dat.int (xs := a_self) (ob h) trivial (fun x1 _ h s H C cl fp => gc_name  <| fun s H C cl fp => ef_one <| et_not <| et_val <| ex_callB R.n_isinstance PyProof.Rows.Boot.«isinstance» <| ea_cons <| ex_var ⟨rfl, rfl⟩ <| ea_cons <| ex_gref R.mc_Full <| ea_nil <| c_isx (.own _) (isin_Full R x1) <| ⟨_, rfl, cifN h (fun h => ⟨rfl, h⟩) (fun h => fun s H C cl fp => ex_propD <| ex_var ⟨rfl, rfl⟩ <| prD (pr_Step_size R x1 (hr.mono (by decide))) (ob h) fun z2 h => ⟨rfl, z2, rfl, h⟩)⟩) (fun l3 h => ea_nil <| ⟨l3, rfl, outU (ob h) (fun z4 h => (dN [] h)) (fun _ h => dX [] h)⟩)⟩⟩

def S_holds_in (R : Prg K mg) : Spc := fun ds M P E => ∃ (a_one : (Int × Int)) (a_other : (Int × Int)), ds = [((pairD Dat.int Dat.int) a_one), ((pairD Dat.int Dat.int) a_other)] ∧ (m_holds_in a_one a_other).Out (fun r => P (.bl r) M) (fun x => E (exE R x) M)
theorem ok_holds_in (R : Prg K mg) : FnD PR w K mg base 1 R.f_holds_in R.d_holds_in P_holds_in (S_holds_in R) := by
  refine fn_d false R.F_holds_in sc_holds_in (fun h => nomatch h) (fun ds M P E ⟨_, _, e, _⟩ => by rw [e]; rfl) fun cdv A outer s H E hr ds M Pd PE h => ?_
  obtain ⟨a_one, a_other, rfl, h⟩ := h
  have hu := hr.units
  refine WS.ends ?_
  exact ws_ret <| exJQ Dat.bl (ob h) (fun _ h => exA h (fun _ h => ex_cmp <| ex_bin <| ex_ix <| ex_var ⟨rfl, rfl⟩ <| ex_int <| i_tup rfl <| ex_ix <| ex_var ⟨rfl, rfl⟩ <| ex_int <| i_tup rfl <| o_band <| ex_ix <| ex_var ⟨rfl, rfl⟩ <| ex_int <| i_tup rfl <| o_eqI <| ⟨rfl, (decide ((Builtin.bitAnd a_one.1 a_other.1) = a_one.1)), rfl, h⟩) (fun h => ex_and1 <| ex_cmp <| ex_bin <| ex_ix <| ex_var ⟨rfl, rfl⟩ <| ex_int <| i_tup rfl <| ex_ix <| ex_var ⟨rfl, rfl⟩ <| ex_int <| i_tup rfl <| o_band <| ex_ix <| ex_var ⟨rfl, rfl⟩ <| ex_int <| i_tup rfl <| o_eqI <| ⟨rfl, (decide ((Builtin.bitAnd a_one.2 a_other.2) = a_one.2)), rfl, h⟩)) fun z1 h => (dN [] h)

def S_is_held__v2 (R : Prg K mg) : Spc := fun ds M P E => ∃ (P_rows : Addr) (a_rows : (List (Int × Int))) (a_other : (Int × Int)) (M0 : Mem), ds = [.raw (.ref P_rows), ((pairD Dat.int Dat.int) a_other)] ∧ M = (P_rows, .lst (a_rows.map (pairD Dat.int Dat.int))) :: M0 ∧ (m_is_held__v2 a_rows a_other).Out (fun r => P (.bl r) M) (fun x => E (exE R x) M)
theorem ok_is_held__v2 (R : Prg K mg) : FnD PR w K mg base 2 R.f_is_held R.d_is_held P_is_held (S_is_held__v2 R) := by
  refine fn_d false R.F_is_held sc_is_held (fun h => nomatch h) (fun ds M P E ⟨_, _, _, _, e, _⟩ => by rw [e]; rfl) fun cdv A outer s H E hr ds M Pd PE h => ?_
  obtain ⟨P_rows, a_rows, a_other, M0, rfl, rfl, h⟩ := h
  have hu := hr.units
  refine WS.ends ?_
  refine ws_forT <| ei_cell <| ex_var ⟨rfl, rfl⟩ <| ⟨_, _, rfl, List.mem_cons_self, forT (pairD Dat.int Dat.int) (xs := a_rows) (fun (s1 : Unit) τ M' => ∃ d2, [some (.raw (.ref P_rows)), some ((pairD Dat.int Dat.int) a_other), d2] = τ ∧ (P_rows, .lst (a_rows.map (pairD Dat.int Dat.int))) :: M0 = M') (ob h) ⟨_, rfl, rfl⟩ (fun _ _ _ ⟨_, _, e⟩ => e ▸ List.mem_cons_self) ?g8 ?g9⟩
  case g8 =>
    rintro x2 s1 _ _ N ⟨d2, rfl, rfl⟩ h hrt3
    refine gx_name  <| ?_
    refine ws_if <| et_val <| ex_callF (ok_holds_in R) (hr.mono (by decide)) R.m_holds_in R.F_holds_in R.b_holds_in <| ea_cons <| ex_var ⟨rfl, rfl⟩ <| ea_cons <| ex_var ⟨rfl, rfl⟩ <| ea_nil <| ⟨x2, a_other, rfl, outU (ob h) (fun z5 h => ⟨_, rfl, cif h (fun h => ?g6) (fun h => ?g7)⟩) (fun _ h => dX [] h)⟩
    case g6 =>
      exact ws_ret <| ex_bl <| (dN [] (hrt3 _ h))
    case g7 =>
      refine ws_nil ?_
      exact ws_nil ⟨(), ⟨_, rfl, rfl⟩, h⟩
  case g9 =>
    rintro s1 _ _ ⟨d2, rfl, rfl⟩ h
    replace h := finO h
    exact ws_ret <| ex_bl <| (dN [] h)

def S_least_of (R : Prg K mg) : Spc := fun ds M P E => ∃ (a_rows : (List (Int × Int))), ds = [((lstD (pairD Dat.int Dat.int)) a_rows)] ∧ (m_least_of a_rows).Out (fun r => P ((lstD (pairD Dat.int Dat.int)) r) M) (fun x => E (exE R x) M)
theorem ok_least_of (R : Prg K mg) : FnD PR w K mg base 3 R.f_least_of R.d_least_of P_least_of (S_least_of R) := by
  refine fn_d false R.F_least_of sc_least_of (fun h => nomatch h) (fun ds M P E ⟨_, e, _⟩ => by rw [e]; rfl) fun cdv A outer s H E hr ds M Pd PE h => ?_
  obtain ⟨a_rows, rfl, h⟩ := h
  have hu := hr.units
  refine WS.ends ?_
  refine ws_set <| ex_lstC <| ea_nil ⟨ln, fun q1 _ => ?_⟩
  refine ws_forT <| ei_list <| ex_srtSetT R.n_sorted R.n_set hu <| ex_var ⟨rfl, rfl⟩ <| ⟨a_rows, rfl, _, _, (ob h), fun z2 h => ⟨_, rfl, foldT (pairD Dat.int Dat.int) (xs := z2) (fun (s3 : (List (Int × Int))) τ M' => ∃ d2, [some ((lstD (pairD Dat.int Dat.int)) a_rows), some (.raw (.ref q1)), d2] = τ ∧ (q1, .lst (s3.map (pairD Dat.int Dat.int))) :: M = M') (ob h) ⟨_, rfl, rfl⟩ (fun _ _ _ _ => trivial) ?g14 ?g15⟩⟩
  case g14 =>
    rintro x4 s3 _ _ N ⟨d2, rfl, rfl⟩ h
    refine gx_name  <| ?_
    refine ws_ifQ (fun Q τ M' => ∃ s7 : (List (Int × Int)), [some ((lstD (pairD Dat.int Dat.int)) a_rows), some (.raw (.ref q1)), some ((pairD Dat.int Dat.int) x4)] = τ ∧ (q1, .lst (s7.map (pairD Dat.int Dat.int))) :: M = M' ∧ Q s7) (ob h) (fun _ h => et_not <| et_val <| ex_callF (ok_is_held__v2 R) (hr.mono (by decide)) R.m_is_held R.F_is_held R.b_is_held <| ea_cons <| ex_var ⟨rfl, rfl⟩ <| ea_cons <| ex_var ⟨rfl, rfl⟩ <| ea_nil <| ⟨q1, s3, x4, _, rfl, rfl, outU (ob h) (fun z8 h => ⟨_, rfl, cifN h (fun h => ?g12) (fun h => ?g11)⟩) (fun _ h => dX [_] h)⟩) ?k13
    case g11 =>
      refine ws_expr <| r_app [] (pairD Dat.int Dat.int) (xs := s3) <| ex_var ⟨rfl, rfl⟩ ⟨rfl, rfl, ea_cons <| ex_var ⟨rfl, rfl⟩ <| ea_nil <| b_app [] (pairD Dat.int Dat.int) (xs := s3) (x := x4) (ob h) fun z9 h => ?_⟩
      exact ws_nil ⟨z9, rfl, rfl, h⟩
    case g12 =>
      exact ws_nil ⟨s3, rfl, rfl, h⟩
    case k13 =>
      rintro _ _ ⟨s7, rfl, rfl, h⟩
      exact ws_nil ⟨s7, ⟨_, rfl, rfl⟩, h⟩
  case g15 =>
    rintro s3 _ _ ⟨d2, rfl, rfl⟩ h
    exact ws_ret <| ex_frz <| ex_var ⟨rfl, rfl⟩ ⟨_, _, _, rfl, (List.perm_middle (l₁ := [])), (dN [] h)⟩

def S_dug (R : Prg K mg) : Spc := fun ds M P E => ∃ (a_rows : (List (Int × Int))) (a_bits : (List Int)), ds = [((lstD (pairD Dat.int Dat.int)) a_rows), ((lstD Dat.int) a_bits)] ∧ (m_dug a_rows a_bits).Out (fun r => P ((lstD (pairD Dat.int Dat.int)) r) M) (fun x => E (exE R x) M)
theorem ok_dug (R : Prg K mg) : FnD PR w K mg base 6 R.f_dug R.d_dug P_dug (S_dug R) := by
  refine fn_d false R.F_dug sc_dug (fun h => nomatch h) (fun ds M P E ⟨_, _, e, _⟩ => by rw [e]; rfl) fun cdv A outer s H E hr ds M Pd PE h => ?_
  obtain ⟨a_rows, a_bits, rfl, h⟩ := h
  have hu := hr.units
  refine WS.ends ?_
  refine ws_if <| et_cmp <| ex_lcT [("row", 5)] <| ei_list <| ex_var ⟨rfl, rfl⟩ <| ⟨_, rfl, compT (pairD Dat.int Dat.int) (pairD Dat.int Dat.int) (xs := a_rows) (ob h) trivial (fun x1 _ h s H C cl fp => gc_name <| fun s H C cl fp => ef_one <| et_cmp <| ex_bin <| ex_ix <| ex_var ⟨rfl, rfl⟩ <| ex_int <| i_tup rfl <| ex_callB R.n_sum PyProof.Rows.Boot.«sum» <| ea_cons <| ex_var ⟨rfl, rfl⟩ <| ea_nil <| c_sumT (ns := a_bits) <| o_band <| ex_int <| o_eqI <| ⟨_, rfl, cif h (fun h => fun s H C cl fp => ex_var ⟨rfl, rfl⟩ ⟨rfl, x1, rfl, h⟩) (fun h => ⟨rfl, h⟩)⟩) (fun l h => ex_lst <| ea_nil ⟨ln, r_eqNilT (pairD Dat.int Dat.int) hu <| ⟨_, rfl, cif h (fun h => ?g1) (fun h => ?g2)⟩⟩)⟩
  case g1 => exact ws_ret <| ex_var ⟨rfl, rfl⟩ <| dN [] h
  case g2 =>
    refine ws_nil ?_
    refine ws_set <| ex_lstC <| ea_nil ⟨ln, fun q1 _ => ?_⟩
    refine ws_forT <| ei_list <| ex_var ⟨rfl, rfl⟩ <| ⟨_, rfl, foldT (pairD Dat.int Dat.int) (xs := a_rows) (fun (s3 : (List (Int × Int))) τ M' => ∃ q d1 d2 d3 d4, [some ((lstD (pairD Dat.int Dat.int)) a_rows), some ((lstD Dat.int) a_bits), some (.raw (.ref q)), d1, d2, d3, d4] = τ ∧ (q, .lst (s3.map (pairD Dat.int Dat.int))) :: M = M') (ob h) ⟨_, _, _, _, _, rfl, rfl⟩ (fun _ _ _ _ => trivial) ?g14 ?g15⟩
    case g14 =>
      rintro x s3 _ _ N ⟨q, d1, d2, d3, d4, rfl, rfl⟩ h
      refine gx_tup <| gxs_cons <| gx_name <| gxs_cons <| gx_name <| gxs_nil ?_
      refine ws_if <| et_cmp <| ex_bin <| ex_var ⟨rfl, rfl⟩ <| ex_callB R.n_sum PyProof.Rows.Boot.«sum» <| ea_cons <| ex_var ⟨rfl, rfl⟩ <| ea_nil <| c_sumT (ns := a_bits) <| o_band <| ex_int <| o_neI <| ⟨_, rfl, cif h (fun h => ?b1) (fun h => ?b2)⟩
      case b1 =>
        refine ws_expr <| r_app [] (pairD Dat.int Dat.int) (xs := s3) <| ex_var ⟨rfl, rfl⟩ ⟨rfl, rfl, ea_cons <| ex_tup <| ea_cons <| ex_var ⟨rfl, rfl⟩ <| ea_cons <| ex_var ⟨rfl, rfl⟩ <| ea_nil ⟨ln, ea_nil <| b_app [] (pairD Dat.int Dat.int) (xs := s3) (x := (x.1, x.2)) h fun z9 h => ?_⟩⟩
        exact ws_nil <| ws_nil ⟨z9, ⟨_, _, _, _, _, rfl, rfl⟩, h⟩
      case b2 =>
        refine ws_set <| ex_bin <| ex_var ⟨rfl, rfl⟩ <| ex_lcT [("bit", 6)] <| ei_list <| ex_var ⟨rfl, rfl⟩ <| ⟨_, rfl, compT Dat.int (pairD Dat.int Dat.int) (xs := a_bits) (ob h) trivial (fun x1 _ h s H C cl fp => gc_name <| fun s H C cl fp => ef_nil ⟨fun _ s H C cl fp => ex_tup <| ea_cons <| ex_bin <| ex_var ⟨rfl, rfl⟩ <| ex_var ⟨rfl, rfl⟩ <| o_bor <| ea_cons <| ex_bin <| ex_var ⟨rfl, rfl⟩ <| ex_var ⟨rfl, rfl⟩ <| o_bor <| ea_nil ⟨ln, rfl, _, rfl, h⟩, fun z => nomatch z⟩) (fun l2 h => ?c)⟩
        have g := gd h
        refine o_catNew (xs := s3.map (pairD Dat.int Dat.int)) (ys := l2.map (pairD Dat.int Dat.int)) (.inr ⟨q, rfl, List.mem_cons_self⟩) (.inl rfl) (by rw [List.length_map, List.length_map]; exact g.1) fun q' => ?_
        refine ws_drop (A := (q', .lst (s3.map (pairD Dat.int Dat.int) ++ l2.map (pairD Dat.int Dat.int))) :: M) (B := [_]) (List.Perm.cons _ (List.perm_append_comm (l₁ := [_]))) ?_
        refine ws_nil <| ws_nil ⟨s3 ++ l2, ⟨q', _, _, _, _, rfl, ?_⟩, g.2⟩
        rw [List.map_append]
    case g15 =>
      rintro s3 _ _ ⟨q, d1, d2, d3, d4, rfl, rfl⟩ h
      refine ws_frz 2 rfl (List.Perm.refl _) ?_
      exact ws_ret <| ex_callF (ok_least_of R) (hr.mono (by decide)) R.m_least_of R.F_least_of R.b_least_of <| ea_cons <| ex_var ⟨rfl, rfl⟩ <| ea_nil ⟨s3, rfl, outU (ob h) (fun z h => dN [] h) (fun _ h => dX [] h)⟩

def S_behind_step (R : Prg K mg) : Spc := fun ds M P E => ∃ (a_step : StepT) (a_table : (List (List (Int × Int)))), ds = [((stepD R) a_step), ((lstD (lstD (pairD Dat.int Dat.int))) a_table)] ∧ (m_behind_step a_step a_table).Out (fun r => P ((lstD (lstD (pairD Dat.int Dat.int))) r) M) (fun x => E (exE R x) M)
theorem ok_behind_step (R : Prg K mg) : FnD PR w K mg base 7 R.f_behind_step R.d_behind_step P_behind_step (S_behind_step R) := by
  refine fn_d false R.F_behind_step sc_behind_step (fun h => nomatch h) (fun ds M P E ⟨_, _, e, _⟩ => by rw [e]; rfl) fun cdv A outer s H E hr ds M Pd PE h => ?_
  obtain ⟨a_step, a_table, rfl, h⟩ := h
  have hu := hr.units
  refine WS.ends ?_
  refine ws_if <| et_val <| ex_callB R.n_isinstance PyProof.Rows.Boot.«isinstance» <| ea_cons <| ex_var ⟨rfl, rfl⟩ <| ea_cons <| ex_gref R.mc_Full <| ea_nil <| c_isx (.own _) (isin_Full R a_step) <| ⟨_, rfl, cif h (fun h => ?g3) (fun h => ?g44)⟩
  case g3 =>
    exact ws_ret <| ex_lcT [("rows", 7)] <| ei_list <| ex_var ⟨rfl, rfl⟩ <| ⟨_, rfl, compT (lstD (pairD Dat.int Dat.int)) (lstD (pairD Dat.int Dat.int)) (xs := a_table) (ob h) trivial (fun x1 _ h s H C cl fp => gc_name  <| fun s H C cl fp => ef_nil ⟨fun _ s H C cl fp => ex_lst <| ea_cons <| ex_tup <| ea_cons <| ex_int <| ea_cons <| ex_int <| ea_nil ⟨ln, ea_nil ⟨ln, ⟨rfl, ([((0 : Int), (0 : Int))] : List (Int × Int)), rfl, h⟩⟩⟩, fun z => nomatch z⟩) (fun l2 h => (dN [] h))⟩
  case g44 =>
    refine ws_nil ?_
    refine ws_set <| ex_lst <| ea_nil ⟨ln, ?_⟩
    refine ws_forT <| ei_rng3 R.n_range <| ex_int <| ex_callB R.n_len PyProof.Rows.Boot.«len» <| ea_cons <| ex_var ⟨rfl, rfl⟩ <| ea_nil <| c_lenT (lstD (pairD Dat.int Dat.int)) (xs := a_table) <| ex_propD <| ex_var ⟨rfl, rfl⟩ <| prD (pr_Step_size R a_step (hr.mono (by decide))) (ob h) fun z4 h => ⟨(0 : Int), (a_table.length : Int), z4, rfl, rfl, rfl, (gd (ob h)).1, have h := (gd (ob h)).2; foldT Dat.int (xs := (rangeC (0 : Int) z4 (Int.toNat (((a_table.length : Int) - (0 : Int) + z4 - 1) / z4)))) (fun (s5 : (List (List (Int × Int)))) τ M' => ∃ d3 d4 d5 d6 d7 d8 d9 d10, [some ((stepD R) a_step), some ((lstD (lstD (pairD Dat.int Dat.int))) a_table), some ((lstD (lstD (pairD Dat.int Dat.int))) s5), d3, d4, d5, d6, d7, d8, d9, d10] = τ ∧ M = M') (ob h) ⟨_, _, _, _, _, _, _, _, rfl, rfl⟩ (fun _ _ _ _ => trivial) ?g41 ?g42⟩
    case g41 =>
      rintro x6 s5 _ _ N ⟨d3, d4, d5, d6, d7, d8, d9, d10, rfl, rfl⟩ h
      refine gx_name  <| ?_
      refine ws_set <| ex_sl <| ex_var ⟨rfl, rfl⟩ <| ep_some <| ex_var ⟨rfl, rfl⟩ <| ⟨_, rfl, ep_some <| ex_bin <| ex_var ⟨rfl, rfl⟩ <| ex_propD <| ex_var ⟨rfl, rfl⟩ <| prD (pr_Step_size R a_step (hr.mono (by decide))) (ob h) fun z9 h => o_add <| ⟨_, rfl, l_lstT (lstD (pairD Dat.int Dat.int)) (xs := a_table) <| ?_⟩⟩
      refine ws_set <| ex_lcT [("at", 8)] <| ei_rng2 R.n_range <| ex_var ⟨rfl, rfl⟩ <| ex_bin <| ex_var ⟨rfl, rfl⟩ <| ex_callB R.n_len PyProof.Rows.Boot.«len» <| ea_cons <| ex_var ⟨rfl, rfl⟩ <| ea_nil <| c_lenT (lstD (pairD Dat.int Dat.int)) (xs := (cutD a_table (some x6) (some (x6 + z9)))) <| o_add <| ⟨x6, (x6 + ((cutD a_table (some x6) (some (x6 + z9))).length : Int)), rfl, rfl, (gd (ob h)).1, have h := (gd (ob h)).2; compT Dat.int Dat.int (xs := (rangeL x6 (Int.toNat ((x6 + ((cutD a_table (some x6) (some (x6 + z9))).length : Int)) - x6)))) (ob h) trivial (fun x10 _ h s H C cl fp => gc_name  <| fun s H C cl fp => ef_nil ⟨fun _ s H C cl fp => ex_bin <| ex_int <| ex_var ⟨rfl, rfl⟩ <| r_shl (ob h) fun z11 h => ⟨rfl, z11, rfl, h⟩, fun z => nomatch z⟩) (fun l12 h => ?_)⟩
      refine ws_ifQ (fun Q τ M' => ∃ s13 : (List (List (Int × Int))), ∃ d6 d7 d8 d9 d10, [some ((stepD R) a_step), some ((lstD (lstD (pairD Dat.int Dat.int))) a_table), some ((lstD (lstD (pairD Dat.int Dat.int))) s13), some (.int x6), some ((lstD (lstD (pairD Dat.int Dat.int))) (cutD a_table (some x6) (some (x6 + z9)))), some ((lstD Dat.int) l12), d6, d7, d8, d9, d10] = τ ∧ M = M' ∧ Q s13) (ob h) (fun _ h => et_val <| ex_callB R.n_isinstance PyProof.Rows.Boot.«isinstance» <| ea_cons <| ex_var ⟨rfl, rfl⟩ <| ea_cons <| ex_gref R.mc_Keep <| ea_nil <| c_isx (.own _) (isin_Keep R a_step) <| ⟨_, rfl, cif h (fun h => ?g21) (fun h => ?g37)⟩) ?k38
      case g21 =>
        refine ws_set <| ex_callF (ok_least_of R) (hr.mono (by decide)) R.m_least_of R.F_least_of R.b_least_of <| ea_cons <| ex_flat [("rows", 7), ("row", 9)] [9] <| ei_list <| ex_var ⟨rfl, rfl⟩ <| ⟨_, rfl, flatT (pairD Dat.int Dat.int) (xss := (cutD a_table (some x6) (some (x6 + z9)))) (ob h) trivial (fun ds s H C cl fp => gc_name ⟨rfl, (fun s H C cl fp => ei_list <| ex_var ⟨rfl, rfl⟩ ⟨_, rfl, rfl, rfl, trivial⟩), fun d s H C cl fp => gc_name ⟨rfl, fun s H C cl fp => ex_var ⟨rfl, rfl⟩ ⟨rfl, rfl⟩⟩⟩) fun l14 h => ea_nil <| ⟨l14, rfl, outU (ob h) (fun z15 h => ?_) (fun _ h => dX [] h)⟩⟩
        refine ws_set <| ex_bin <| ex_var ⟨rfl, rfl⟩ <| ex_lcT [("rows", 7)] <| ei_list <| ex_var ⟨rfl, rfl⟩ <| ⟨_, rfl, compT (lstD (pairD Dat.int Dat.int)) (lstD (pairD Dat.int Dat.int)) (xs := (cutD a_table (some x6) (some (x6 + z9)))) (ob h) trivial (fun x16 _ h s H C cl fp => gc_name  <| fun s H C cl fp => ef_nil ⟨fun _ s H C cl fp => ex_var ⟨rfl, rfl⟩ <| ⟨rfl, z15, rfl, h⟩, fun z => nomatch z⟩) (fun l17 h => r_catL (lstD (pairD Dat.int Dat.int)) (xs := s5) (ys := l17) (ob h) fun z18 h => ?_)⟩
        exact ws_nil ⟨z18, _, _, _, _, _, rfl, rfl, h⟩
      case g37 =>
        refine ws_ifQ (fun Q τ M' => ∃ s22 : (List (List (Int × Int))), ∃ d6 d7 d8 d9 d10, [some ((stepD R) a_step), some ((lstD (lstD (pairD Dat.int Dat.int))) a_table), some ((lstD (lstD (pairD Dat.int Dat.int))) s22), some (.int x6), some ((lstD (lstD (pairD Dat.int Dat.int))) (cutD a_table (some x6) (some (x6 + z9)))), some ((lstD Dat.int) l12), d6, d7, d8, d9, d10] = τ ∧ M = M' ∧ Q s22) (ob h) (fun _ h => et_val <| ex_callB R.n_isinstance PyProof.Rows.Boot.«isinstance» <| ea_cons <| ex_var ⟨rfl, rfl⟩ <| ea_cons <| ex_gref R.mc_Dig <| ea_nil <| c_isx (.own _) (isin_Dig R a_step) <| ⟨_, rfl, cif h (fun h => ?g28) (fun h => ?g35)⟩) ?k36
        case g28 =>
          refine ws_set <| ex_bin <| ex_var ⟨rfl, rfl⟩ <| ex_lcT [("rows", 7)] <| ei_list <| ex_var ⟨rfl, rfl⟩ <| ⟨_, rfl, compT (lstD (pairD Dat.int Dat.int)) (lstD (pairD Dat.int Dat.int)) (xs := (cutD a_table (some x6) (some (x6 + z9)))) (ob h) trivial (fun x23 _ h s H C cl fp => gc_name  <| fun s H C cl fp => ef_nil ⟨fun _ s H C cl fp => ex_callF (ok_dug R) (hr.mono (by decide)) R.m_dug R.F_dug R.b_dug <| ea_cons <| ex_var ⟨rfl, rfl⟩ <| ea_cons <| ex_var ⟨rfl, rfl⟩ <| ea_nil <| ⟨x23, l12, rfl, outU (ob h) (fun z24 h => ⟨rfl, z24, rfl, h⟩) (fun _ h => h)⟩, fun z => nomatch z⟩) (fun l25 h => r_catL (lstD (pairD Dat.int Dat.int)) (xs := s5) (ys := l25) (ob h) fun z26 h => ?_)⟩
          exact ws_nil ⟨z26, _, _, _, _, _, rfl, rfl, h⟩
        case g35 =>
          refine ws_set <| ex_bin <| ex_var ⟨rfl, rfl⟩ <| ex_lcT [("rows", 7)] <| ei_list <| ex_var ⟨rfl, rfl⟩ <| ⟨_, rfl, compT (lstD (pairD Dat.int Dat.int)) (lstD (pairD Dat.int Dat.int)) (xs := (cutD a_table (some x6) (some (x6 + z9)))) (ob h) trivial (fun x29 _ h s H C cl fp => gc_name  <| fun s H C cl fp => ef_nil ⟨fun _ s H C cl fp => ex_lcT [("bit", 10)] <| ei_list <| ex_var ⟨rfl, rfl⟩ <| ⟨_, rfl, compT Dat.int (pairD Dat.int Dat.int) (xs := l12) (ob h) trivial (fun x30 _ h s H C cl fp => gc_name  <| fun s H C cl fp => ef_nil ⟨fun _ s H C cl fp => ex_tup <| ea_cons <| ex_var ⟨rfl, rfl⟩ <| ea_cons <| ex_var ⟨rfl, rfl⟩ <| ea_nil ⟨ln, ⟨rfl, (x30, x30), rfl, h⟩⟩, fun z => nomatch z⟩) (fun l31 h => ⟨rfl, l31, rfl, h⟩)⟩, fun z => nomatch z⟩) (fun l32 h => r_catL (lstD (pairD Dat.int Dat.int)) (xs := s5) (ys := l32) (ob h) fun z33 h => ?_)⟩
          exact ws_nil ⟨z33, _, _, _, _, _, rfl, rfl, h⟩
        case k36 =>
          rintro _ _ ⟨s22, d6, d7, d8, d9, d10, rfl, rfl, h⟩
          exact ws_nil ⟨s22, _, _, _, _, _, rfl, rfl, h⟩
      case k38 =>
        rintro _ _ ⟨s13, d6, d7, d8, d9, d10, rfl, rfl, h⟩
        exact ws_nil ⟨s13, ⟨_, _, _, _, _, _, _, _, rfl, rfl⟩, h⟩
    case g42 =>
      rintro s5 _ _ ⟨d3, d4, d5, d6, d7, d8, d9, d10, rfl, rfl⟩ h
      exact ws_ret <| ex_var ⟨rfl, rfl⟩ <| (dN [] h)

def S_reason_table (R : Prg K mg) : Spc := fun ds M P E => ∃ (a_script : (List StepT)), ds = [((scriptD R) a_script)] ∧ (m_reason_table a_script).Out (fun r => P ((lstD (lstD (pairD Dat.int Dat.int))) r) M) (fun x => E (exE R x) M)
theorem ok_reason_table (R : Prg K mg) : FnD PR w K mg base 8 R.f_reason_table R.d_reason_table P_reason_table (S_reason_table R) := by
  refine fn_d false R.F_reason_table sc_reason_table (fun h => nomatch h) (fun ds M P E ⟨_, e, _⟩ => by rw [e]; rfl) fun cdv A outer s H E hr ds M Pd PE h => ?_
  obtain ⟨a_script, rfl, h⟩ := h
  have hu := hr.units
  refine WS.ends ?_
  refine ws_setLcT [("at", 3)] <| ei_rng1 R.n_range <| ex_prop R.L_Script.cl R.V_Script_period (ok_Script_period R) (hr.mono (by decide)) R.b_Script_period <| ex_var ⟨rfl, rfl⟩ <| ⟨⟨"", .inl ⟨_, _, rfl, by decide⟩⟩, ap_all ⟨a_script, rfl, outU (ne_out (E' := fun _ => False) (ob h)) (fun z1 h => ⟨z1, rfl, (gd (ob h)).1, have h := (gd (ob h)).2; compT Dat.int (lstD (pairD Dat.int Dat.int)) (xs := (rangeL 0 (Int.toNat z1))) (ob h) trivial (fun x2 _ h s H C cl fp => gc_name  <| fun s H C cl fp => ef_nil ⟨fun _ s H C cl fp => ex_lst <| ea_cons <| ex_tup <| ea_cons <| ex_bin <| ex_int <| ex_var ⟨rfl, rfl⟩ <| r_shl (ob h) fun z3 h => ea_cons <| ex_int <| ea_nil ⟨ln, ea_nil ⟨ln, ⟨rfl, ([(z3, (0 : Int))] : List (Int × Int)), rfl, h⟩⟩⟩, fun z => nomatch z⟩) (fun l4 h => ?_)⟩) (fun _ h => h.elim)⟩⟩
  refine ws_forT <| ei_ownT R.F_Script_iter sc_Script_iter rfl R.M_Script_iter R.L_Script.cl R.A_Script_rows R.n_iter (hr.mono (by decide)) R.b_Script_iter rfl (by first | exact Or.inl rfl | exact Or.inr (Or.inl rfl) | exact Or.inr (Or.inr rfl)) (by intro _ _ _; rfl) <| ex_var ⟨rfl, rfl⟩ <| ⟨_, rfl, foldT (stepD R) (xs := a_script) (fun (s5 : (List (List (Int × Int)))) τ M' => ∃ d2 d3, [some ((scriptD R) a_script), some ((lstD (lstD (pairD Dat.int Dat.int))) s5), d2, d3] = τ ∧ M = M') (ob h) ⟨_, _, rfl, rfl⟩ (fun _ _ _ _ => trivial) ?g11 ?g12⟩
  case g11 =>
    rintro x6 s5 _ _ N ⟨d2, d3, rfl, rfl⟩ h
    refine gx_name  <| ?_
    refine ws_set <| ex_callF (ok_behind_step R) (hr.mono (by decide)) R.m_behind_step R.F_behind_step R.b_behind_step <| ea_cons <| ex_var ⟨rfl, rfl⟩ <| ea_cons <| ex_var ⟨rfl, rfl⟩ <| ea_nil <| ⟨x6, s5, rfl, outU (ob h) (fun z9 h => ?_) (fun _ h => dX [] h)⟩
    exact ws_nil ⟨z9, ⟨_, _, rfl, rfl⟩, h⟩
  case g12 =>
    rintro s5 _ _ ⟨d2, d3, rfl, rfl⟩ h
    exact ws_ret <| ex_var ⟨rfl, rfl⟩ <| (dN [] h)

def S_moved_table (R : Prg K mg) : Spc := fun ds M P E => ∃ (a_script : (List StepT)) (a_length : Int), ds = [((scriptD R) a_script), (.int a_length)] ∧ (m_moved_table a_script a_length).Out (fun r => P ((lstD (lstD (pairD Dat.int Dat.int))) r) M) (fun x => E (exE R x) M)
theorem ok_moved_table (R : Prg K mg) : FnD PR w K mg base 9 R.f_moved_table R.d_moved_table P_moved_table (S_moved_table R) := by
  refine fn_d false R.F_moved_table sc_moved_table (fun h => nomatch h) (fun ds M P E ⟨_, _, e, _⟩ => by rw [e]; rfl) fun cdv A outer s H E hr ds M Pd PE h => ?_
  obtain ⟨a_script, a_length, rfl, h⟩ := h
  have hu := hr.units
  refine WS.ends ?_
  refine ws_set <| ex_callF (ok_reason_table R) (hr.mono (by decide)) R.m_reason_table R.F_reason_table R.b_reason_table <| ea_cons <| ex_var ⟨rfl, rfl⟩ <| ea_nil <| ⟨a_script, rfl, outU (ob h) (fun z1 h => ?_) (fun _ h => dX [] h)⟩
  refine ws_set <| ex_lst <| ea_nil ⟨ln, ?_⟩
  refine ws_forT <| ei_rng3 R.n_range <| ex_int <| ex_var ⟨rfl, rfl⟩ <| ex_callB R.n_len PyProof.Rows.Boot.«len» <| ea_cons <| ex_var ⟨rfl, rfl⟩ <| ea_nil <| c_lenT (lstD (pairD Dat.int Dat.int)) (xs := z1) <| ⟨(0 : Int), a_length, (z1.length : Int), rfl, rfl, rfl, (gd (ob h)).1, have h := (gd (ob h)).2; foldT Dat.int (xs := (rangeC (0 : Int) (z1.length : Int) (Int.toNat ((a_length - (0 : Int) + (z1.length : Int) - 1) / (z1.length : Int))))) (fun (s2 : (List (List (Int × Int)))) τ M' => ∃ d4 d5 d6 d7, [some ((scriptD R) a_script), some (.int a_length), some ((lstD (lstD (pairD Dat.int Dat.int))) z1), some ((lstD (lstD (pairD Dat.int Dat.int))) s2), d4, d5, d6, d7] = τ ∧ M = M') (ob h) ⟨_, _, _, _, rfl, rfl⟩ (fun _ _ _ _ => trivial) ?g14 ?g15⟩
  case g14 =>
    rintro x3 s2 _ _ N ⟨d4, d5, d6, d7, rfl, rfl⟩ h
    refine gx_name  <| ?_
    refine ws_set <| ex_bin <| ex_var ⟨rfl, rfl⟩ <| ex_lcT [("rows", 5)] <| ei_list <| ex_var ⟨rfl, rfl⟩ <| ⟨_, rfl, compT (lstD (pairD Dat.int Dat.int)) (lstD (pairD Dat.int Dat.int)) (xs := z1) (ob h) trivial (fun x6 _ h s H C cl fp => gc_name  <| fun s H C cl fp => ef_nil ⟨fun _ s H C cl fp => ex_lcT [("written", 6), ("signs", 7)] <| ei_list <| ex_var ⟨rfl, rfl⟩ <| ⟨_, rfl, compT (pairD Dat.int Dat.int) (pairD Dat.int Dat.int) (xs := x6) (ob h) trivial (fun x7 _ h s H C cl fp => gc_tup <| gcs_cons <| gc_name  <| gcs_cons <| gc_name  <| gcs_nil <| fun s H C cl fp => ef_nil ⟨fun _ s H C cl fp => ex_tup <| ea_cons <| ex_bin <| ex_var ⟨rfl, rfl⟩ <| ex_var ⟨rfl, rfl⟩ <| r_shl (ob h) fun z8 h => ea_cons <| ex_bin <| ex_var ⟨rfl, rfl⟩ <| ex_var ⟨rfl, rfl⟩ <| r_shl (ob h) fun z9 h => ea_nil ⟨ln, ⟨rfl, (z8, z9), rfl, h⟩⟩, fun z => nomatch z⟩) (fun l10 h => ⟨rfl, l10, rfl, h⟩)⟩, fun z => nomatch z⟩) (fun l11 h => r_catL (lstD (pairD Dat.int Dat.int)) (xs := s2) (ys := l11) (ob h) fun z12 h => ?_)⟩
    exact ws_nil ⟨z12, ⟨_, _, _, _, rfl, rfl⟩, h⟩
  case g15 =>
    rintro s2 _ _ ⟨d4, d5, d6, d7, rfl, rfl⟩ h
    exact ws_ret <| ex_var ⟨rfl, rfl⟩ <| (dN [] h)

def S_is_held (R : Prg K mg) : Spc := fun ds M P E => ∃ (a_rows : (List (Int × Int))) (a_other : (Int × Int)), ds = [((lstD (pairD Dat.int Dat.int)) a_rows), ((pairD Dat.int Dat.int) a_other)] ∧ (m_is_held a_rows a_other).Out (fun r => P (.bl r) M) (fun x => E (exE R x) M)
theorem ok_is_held (R : Prg K mg) : FnD PR w K mg base 2 R.f_is_held R.d_is_held P_is_held (S_is_held R) := by
  refine fn_d false R.F_is_held sc_is_held (fun h => nomatch h) (fun ds M P E ⟨_, _, e, _⟩ => by rw [e]; rfl) fun cdv A outer s H E hr ds M Pd PE h => ?_
  obtain ⟨a_rows, a_other, rfl, h⟩ := h
  have hu := hr.units
  refine WS.ends ?_
  refine ws_forT <| ei_list <| ex_var ⟨rfl, rfl⟩ <| ⟨_, rfl, forT (pairD Dat.int Dat.int) (xs := a_rows) (fun (s1 : Unit) τ M' => ∃ d2, [some ((lstD (pairD Dat.int Dat.int)) a_rows), some ((pairD Dat.int Dat.int) a_other), d2] = τ ∧ M = M') (ob h) ⟨_, rfl, rfl⟩ (fun _ _ _ _ => trivial) ?g8 ?g9⟩
  case g8 =>
    rintro x2 s1 _ _ N ⟨d2, rfl, rfl⟩ h hrt3
    refine gx_name  <| ?_
    refine ws_if <| et_val <| ex_callF (ok_holds_in R) (hr.mono (by decide)) R.m_holds_in R.F_holds_in R.b_holds_in <| ea_cons <| ex_var ⟨rfl, rfl⟩ <| ea_cons <| ex_var ⟨rfl, rfl⟩ <| ea_nil <| ⟨x2, a_other, rfl, outU (ob h) (fun z5 h => ⟨_, rfl, cif h (fun h => ?g6) (fun h => ?g7)⟩) (fun _ h => dX [] h)⟩
    case g6 =>
      exact ws_ret <| ex_bl <| (dN [] (hrt3 _ h))
    case g7 =>
      refine ws_nil ?_
      exact ws_nil ⟨(), ⟨_, rfl, rfl⟩, h⟩
  case g9 =>
    rintro s1 _ _ ⟨d2, rfl, rfl⟩ h
    replace h := finO h
    exact ws_ret <| ex_bl <| (dN [] h)

def S_put_down (R : Prg K mg) : Spc := fun ds M P E => ∃ (a_row : (Int × Int)) (a_cell : Int) (a_length : Int), ds = [((pairD Dat.int Dat.int) a_row), (.int a_cell), (.int a_length)] ∧ (m_put_down a_row a_cell a_length).Out (fun r => P ((fileD R) r) M) (fun x => E (exE R x) M)
theorem ok_put_down (R : Prg K mg) : FnD PR w K mg base 4 R.f_put_down R.d_put_down P_put_down (S_put_down R) := by
  refine fn_d false R.F_put_down sc_put_down (fun h => nomatch h) (fun ds M P E ⟨_, _, _, e, _⟩ => by rw [e]; rfl) fun cdv A outer s H E hr ds M Pd PE h => ?_
  obtain ⟨a_row, a_cell, a_length, rfl, h⟩ := h
  have hu := hr.units
  refine WS.ends ?_
  refine ws_asg <| ex_var ⟨rfl, rfl⟩ <| gx_tup <| gxs_cons <| gx_name  <| gxs_cons <| gx_name  <| gxs_nil <| ?_
  refine ws_set <| ex_lcT [("at", 7)] <| ei_rng1 R.n_range <| ex_var ⟨rfl, rfl⟩ <| ⟨a_length, rfl, (gd (ob h)).1, have h := (gd (ob h)).2; compT Dat.int Dat.int (xs := (rangeL 0 (Int.toNat a_length))) (ob h) trivial (fun x1 _ h s H C cl fp => gc_name  <| fun s H C cl fp => ef_nil ⟨fun _ s H C cl fp => ex_bin <| ex_bin <| ex_bin <| ex_var ⟨rfl, rfl⟩ <| ex_var ⟨rfl, rfl⟩ <| r_shr (ob h) fun z2 h => ex_int <| o_band <| ex_bin <| ex_bin <| ex_var ⟨rfl, rfl⟩ <| ex_var ⟨rfl, rfl⟩ <| r_shr (ob h) fun z3 h => ex_int <| o_band <| o_add <| ⟨rfl, ((Builtin.bitAnd z2 (1 : Int)) + (Builtin.bitAnd z3 (1 : Int))), rfl, h⟩, fun z => nomatch z⟩) (fun l4 h => ?_)⟩
  refine ws_set <| ex_callB R.n_max PyProof.Rows.Boot.«max» <| ea_cons <| ex_lcT [("at", 7)] <| ei_rng1 R.n_range <| ex_var ⟨rfl, rfl⟩ <| ⟨a_length, rfl, (gd (ob h)).1, have h := (gd (ob h)).2; compT Dat.int Dat.int (xs := (rangeL 0 (Int.toNat a_length))) (ob h) trivial (fun x5 _ h s H C cl fp => gc_name  <| fun s H C cl fp => ef_one <| etJQ (ob h) (fun _ h => et_w <| ewO h (fun _ h => et_cmp <| ex_ix <| ex_var ⟨rfl, rfl⟩ <| ex_var ⟨rfl, rfl⟩ <| r_ix Dat.int (xs := l4) (ob h) fun z6 h => ex_int <| o_gt <| ⟨_, rfl, rfl, h⟩) (fun h => ew_or1 <| et_cmp <| ex_var ⟨rfl, rfl⟩ <| ex_var ⟨rfl, rfl⟩ <| o_eqI <| ⟨_, rfl, rfl, h⟩)) fun t7 h => cif h (fun h => fun s H C cl fp => ex_var ⟨rfl, rfl⟩ <| ⟨rfl, x5, rfl, h⟩) (fun h => ⟨rfl, h⟩)) (fun l8 h => ea_nil <| c_maxL (ns := l8) (ob h) fun z9 h => ?_)⟩
  exact ws_ret <| ex_make R.K_File (ok_File_init R) (hr.mono (by decide)) R.mc_File R.b_File_init .nil (fun _ => .nil) <| ea_cons <| ex_join <| ex_str <| ⟨.str, ea_cons <| ex_lcT [("kind", 8)] <| ei_list <| ex_sl <| ex_var ⟨rfl, rfl⟩ <| ep_none <| ep_some <| ex_bin <| ex_var ⟨rfl, rfl⟩ <| ex_int <| o_add <| ⟨_, rfl, l_lstT Dat.int (xs := l4) <| ⟨_, rfl, compT Dat.int chD (xs := (cutD l4 none (some (z9 + (1 : Int))))) (ob h) trivial (fun x10 _ h s H C cl fp => gc_name  <| fun s H C cl fp => ef_nil ⟨fun _ s H C cl fp => ex_ix <| ex_str <| ex_var ⟨rfl, rfl⟩ <| r_ixS (ob h) fun z11 h => ⟨rfl, z11, rfl, h⟩, fun z => nomatch z⟩) (fun l12 h => ea_nil <| r_joinC (xs := l12) (ob h) fun z13 h => ea_nil <| fun q dx _ _ _ => mk_File (ob h) (fun z14 h => (dN [] h)) (fun _ h => dX [_] h))⟩⟩⟩

def S_more_of (R : Prg K mg) : Spc := fun ds M P E => ∃ (a_one : (List StepT)) (a_other : (List StepT)), ds = [((scriptD R) a_one), ((scriptD R) a_other)] ∧ (m_more_of a_one a_other).Out (fun r => P ((optD (fileD R)) r) M) (fun x => E (exE R x) M)
theorem ok_more_of (R : Prg K mg) : FnD PR w K mg base 10 R.f_more_of R.d_more_of P_more_of (S_more_of R) := by
  refine fn_d false R.F_more_of sc_more_of (fun h => nomatch h) (fun ds M P E ⟨_, _, e, _⟩ => by rw [e]; rfl) fun cdv A outer s H E hr ds M Pd PE h => ?_
  obtain ⟨a_one, a_other, rfl, h⟩ := h
  have hu := hr.units
  refine WS.ends ?_
  refine ws_set <| ex_callF (ok_multiple_of R) (hr.mono (by decide)) R.m_multiple_of R.F_multiple_of R.b_multiple_of <| ea_cons <| ex_lst <| ea_cons <| ex_prop R.L_Script.cl R.V_Script_period (ok_Script_period R) (hr.mono (by decide)) R.b_Script_period <| ex_var ⟨rfl, rfl⟩ <| ⟨⟨"", .inl ⟨_, _, rfl, by decide⟩⟩, ap_all ⟨a_one, rfl, outU (ne_out (E' := fun _ => False) (ob h)) (fun z1 h => ea_cons <| ex_prop R.L_Script.cl R.V_Script_period (ok_Script_period R) (hr.mono (by decide)) R.b_Script_period <| ex_var ⟨rfl, rfl⟩ <| ⟨⟨"", .inl ⟨_, _, rfl, by decide⟩⟩, ap_all ⟨a_other, rfl, outU (ne_out (E' := fun _ => False) (ob h)) (fun z2 h => ea_nil ⟨ln, ea_nil <| ⟨([z1, z2] : List Int), rfl, outU (ob h) (fun z3 h => ?_) (fun _ h => dX [] h)⟩⟩) (fun _ h => h.elim)⟩⟩) (fun _ h => h.elim)⟩⟩
  refine ws_set <| ex_callF (ok_moved_table R) (hr.mono (by decide)) R.m_moved_table R.F_moved_table R.b_moved_table <| ea_cons <| ex_var ⟨rfl, rfl⟩ <| ea_cons <| ex_var ⟨rfl, rfl⟩ <| ea_nil <| ⟨a_other, z3, rfl, outU (ob h) (fun z4 h => ?_) (fun _ h => dX [] h)⟩
  refine ws_forT <| ei_enumT (lstD (pairD Dat.int Dat.int)) R.n_enumerate <| ex_callF (ok_moved_table R) (hr.mono (by decide)) R.m_moved_table R.F_moved_table R.b_moved_table <| ea_cons <| ex_var ⟨rfl, rfl⟩ <| ea_cons <| ex_var ⟨rfl, rfl⟩ <| ea_nil <| ⟨a_one, z3, rfl, outU (ob h) (fun z5 h => ⟨z5, rfl, forT (pairD Dat.int (lstD (pairD Dat.int Dat.int))) (xs := (enumL z5)) (fun (s6 : Unit) τ M' => ∃ d4 d5 d6, [some ((scriptD R) a_one), some ((scriptD R) a_other), some (.int z3), some ((lstD (lstD (pairD Dat.int Dat.int))) z4), d4, d5, d6] = τ ∧ M = M') (ob h) ⟨_, _, _, rfl, rfl⟩ (fun _ _ _ _ => trivial) ?g21 ?g22⟩) (fun _ h => dX [] h)⟩
  case g21 =>
    rintro x7 s6 _ _ N ⟨d4, d5, d6, rfl, rfl⟩ h hrt8
    refine gx_tup <| gxs_cons <| gx_name  <| gxs_cons <| gx_name  <| gxs_nil <| ?_
    refine ws_forT <| ei_list <| ex_var ⟨rfl, rfl⟩ <| ⟨_, rfl, forT (pairD Dat.int Dat.int) (xs := x7.2) (fun (s10 : Unit) τ M' => ∃ d6, [some ((scriptD R) a_one), some ((scriptD R) a_other), some (.int z3), some ((lstD (lstD (pairD Dat.int Dat.int))) z4), some (.int x7.1), some ((lstD (pairD Dat.int Dat.int)) x7.2), d6] = τ ∧ M = M') (ob h) ⟨_, rfl, rfl⟩ (fun _ _ _ _ => trivial) ?g19 ?g20⟩
    case g19 =>
      rintro x11 s10 _ _ N ⟨d6, rfl, rfl⟩ h hrt12
      refine gx_name  <| ?_
      refine ws_if <| et_not <| et_val <| ex_callF (ok_is_held R) (hr.mono (by decide)) R.m_is_held R.F_is_held R.b_is_held <| ea_cons <| ex_ix <| ex_var ⟨rfl, rfl⟩ <| ex_var ⟨rfl, rfl⟩ <| r_ix (lstD (pairD Dat.int Dat.int)) (xs := z4) (ob h) fun z14 h => ea_cons <| ex_var ⟨rfl, rfl⟩ <| ea_nil <| ⟨z14, x11, rfl, outU (ob h) (fun z15 h => ⟨_, rfl, cifN h (fun h => ?g18) (fun h => ?g17)⟩) (fun _ h => dX [] h)⟩
      case g17 =>
        exact ws_ret <| ex_callF (ok_put_down R) (hr.mono (by decide)) R.m_put_down R.F_put_down R.b_put_down <| ea_cons <| ex_var ⟨rfl, rfl⟩ <| ea_cons <| ex_var ⟨rfl, rfl⟩ <| ea_cons <| ex_var ⟨rfl, rfl⟩ <| ea_nil <| ⟨x11, x7.1, z3, rfl, outU (ob h) (fun z16 h => (dN [] (hrt8 _ (hrt12 _ h)))) (fun _ h => dX [] h)⟩
      case g18 =>
        refine ws_nil ?_
        exact ws_nil ⟨(), ⟨_, rfl, rfl⟩, h⟩
    case g20 =>
      rintro s10 _ _ ⟨d6, rfl, rfl⟩ h
      replace h := finO h
      exact ws_nil ⟨(), ⟨_, _, _, rfl, rfl⟩, h⟩
  case g22 =>
    rintro s6 _ _ ⟨d4, d5, d6, rfl, rfl⟩ h
    replace h := finO h
    exact ws_ret <| ex_non <| (dN [] h)

def S_parting_of (R : Prg K mg) : Spc := fun ds M P E => ∃ (a_one : (List StepT)) (a_other : (List StepT)), ds = [((scriptD R) a_one), ((scriptD R) a_other)] ∧ (m_parting_of a_one a_other).Out (fun r => P ((optD (fileD R)) r) M) (fun x => E (exE R x) M)
theorem ok_parting_of (R : Prg K mg) : FnD PR w K mg base 11 R.f_parting_of R.d_parting_of P_parting_of (S_parting_of R) := by
  refine fn_d false R.F_parting_of sc_parting_of (fun h => nomatch h) (fun ds M P E ⟨_, _, e, _⟩ => by rw [e]; rfl) fun cdv A outer s H E hr ds M Pd PE h => ?_
  obtain ⟨a_one, a_other, rfl, h⟩ := h
  have hu := hr.units
  refine WS.ends ?_
  refine ws_set <| ex_callF (ok_more_of R) (hr.mono (by decide)) R.m_more_of R.F_more_of R.b_more_of <| ea_cons <| ex_var ⟨rfl, rfl⟩ <| ea_cons <| ex_var ⟨rfl, rfl⟩ <| ea_nil <| ⟨a_one, a_other, rfl, outU (ob h) (fun z1 h => ?_) (fun _ h => dX [] h)⟩
  exact ws_ret <| exJQ (optD (fileD R)) (ob h) (fun _ h => ex_if <| et_cmp <| ex_var ⟨rfl, rfl⟩ <| ex_non <| o_isNT (fileD R) (fun _ => ⟨rfl, fun _ z => nomatch z⟩) <| ⟨_, rfl, cif h (fun h => ex_callF (ok_more_of R) (hr.mono (by decide)) R.m_more_of R.F_more_of R.b_more_of <| ea_cons <| ex_var ⟨rfl, rfl⟩ <| ea_cons <| ex_var ⟨rfl, rfl⟩ <| ea_nil <| ⟨a_other, a_one, rfl, outU (ob h) (fun z2 h => ⟨rfl, z2, rfl, h⟩) (fun _ h => dX [] h)⟩) (fun h => ex_var ⟨rfl, rfl⟩ <| ⟨rfl, z1, rfl, h⟩)⟩) fun z3 h => (dN [] h)

def S_alike (R : Prg K mg) : Spc := fun ds M P E => ∃ (a_one : (List StepT)) (a_other : (List StepT)), ds = [((scriptD R) a_one), ((scriptD R) a_other)] ∧ (m_alike a_one a_other).Out (fun r => P (.bl r) M) (fun x => E (exE R x) M)
theorem ok_alike (R : Prg K mg) : FnD PR w K mg base 12 R.f_alike R.d_alike P_alike (S_alike R) := by
  refine fn_d false R.F_alike sc_alike (fun h => nomatch h) (fun ds M P E ⟨_, _, e, _⟩ => by rw [e]; rfl) fun cdv A outer s H E hr ds M Pd PE h => ?_
  obtain ⟨a_one, a_other, rfl, h⟩ := h
  have hu := hr.units
  refine WS.ends ?_
  refine ws_expr <| ex_callF (ok_check_two R) (hr.mono (by decide)) R.m_check_two R.F_check_two R.b_check_two <| ea_cons <| ex_var ⟨rfl, rfl⟩ <| ea_cons <| ex_var ⟨rfl, rfl⟩ <| ea_nil <| ⟨a_one, a_other, rfl, outU (ob h) (fun z1 h => ?_) (fun _ h => dX [] h)⟩
  exact ws_ret <| ex_cmp <| ex_callF (ok_parting_of R) (hr.mono (by decide)) R.m_parting_of R.F_parting_of R.b_parting_of <| ea_cons <| ex_var ⟨rfl, rfl⟩ <| ea_cons <| ex_var ⟨rfl, rfl⟩ <| ea_nil <| ⟨a_one, a_other, rfl, outU (ob h) (fun z2 h => ex_non <| o_isNT (fileD R) (fun _ => ⟨rfl, fun _ z => nomatch z⟩) <| (dN [] h)) (fun _ h => dX [] h)⟩

def S_never_more (R : Prg K mg) : Spc := fun ds M P E => ∃ (a_one : (List StepT)) (a_other : (List StepT)), ds = [((scriptD R) a_one), ((scriptD R) a_other)] ∧ (m_never_more a_one a_other).Out (fun r => P (.bl r) M) (fun x => E (exE R x) M)
theorem ok_never_more (R : Prg K mg) : FnD PR w K mg base 11 R.f_never_more R.d_never_more P_never_more (S_never_more R) := by
  refine fn_d false R.F_never_more sc_never_more (fun h => nomatch h) (fun ds M P E ⟨_, _, e, _⟩ => by rw [e]; rfl) fun cdv A outer s H E hr ds M Pd PE h => ?_
  obtain ⟨a_one, a_other, rfl, h⟩ := h
  have hu := hr.units
  refine WS.ends ?_
  refine ws_expr <| ex_callF (ok_check_two R) (hr.mono (by decide)) R.m_check_two R.F_check_two R.b_check_two <| ea_cons <| ex_var ⟨rfl, rfl⟩ <| ea_cons <| ex_var ⟨rfl, rfl⟩ <| ea_nil <| ⟨a_one, a_other, rfl, outU (ob h) (fun z1 h => ?_) (fun _ h => dX [] h)⟩
  exact ws_ret <| ex_cmp <| ex_callF (ok_more_of R) (hr.mono (by decide)) R.m_more_of R.F_more_of R.b_more_of <| ea_cons <| ex_var ⟨rfl, rfl⟩ <| ea_cons <| ex_var ⟨rfl, rfl⟩ <| ea_nil <| ⟨a_one, a_other, rfl, outU (ob h) (fun z2 h => ex_non <| o_isNT (fileD R) (fun _ => ⟨rfl, fun _ z => nomatch z⟩) <| (dN [] h)) (fun _ h => dX [] h)⟩

def S_parting (R : Prg K mg) : Spc := fun ds M P E => ∃ (a_one : (List StepT)) (a_other : (List StepT)), ds = [((scriptD R) a_one), ((scriptD R) a_other)] ∧ (m_parting a_one a_other).Out (fun r => P ((optD (fileD R)) r) M) (fun x => E (exE R x) M)
theorem ok_parting (R : Prg K mg) : FnD PR w K mg base 12 R.f_parting R.d_parting P_parting (S_parting R) := by
  refine fn_d false R.F_parting sc_parting (fun h => nomatch h) (fun ds M P E ⟨_, _, e, _⟩ => by rw [e]; rfl) fun cdv A outer s H E hr ds M Pd PE h => ?_
  obtain ⟨a_one, a_other, rfl, h⟩ := h
  have hu := hr.units
  refine WS.ends ?_
  refine ws_expr <| ex_callF (ok_check_two R) (hr.mono (by decide)) R.m_check_two R.F_check_two R.b_check_two <| ea_cons <| ex_var ⟨rfl, rfl⟩ <| ea_cons <| ex_var ⟨rfl, rfl⟩ <| ea_nil <| ⟨a_one, a_other, rfl, outU (ob h) (fun z1 h => ?_) (fun _ h => dX [] h)⟩
  exact ws_ret <| ex_callF (ok_parting_of R) (hr.mono (by decide)) R.m_parting_of R.F_parting_of R.b_parting_of <| ea_cons <| ex_var ⟨rfl, rfl⟩ <| ea_cons <| ex_var ⟨rfl, rfl⟩ <| ea_nil <| ⟨a_one, a_other, rfl, outU (ob h) (fun z2 h => (dN [] h)) (fun _ h => dX [] h)⟩

def S_more_file (R : Prg K mg) : Spc := fun ds M P E => ∃ (a_one : (List StepT)) (a_other : (List StepT)), ds = [((scriptD R) a_one), ((scriptD R) a_other)] ∧ (m_more_file a_one a_other).Out (fun r => P ((optD (fileD R)) r) M) (fun x => E (exE R x) M)
theorem ok_more_file (R : Prg K mg) : FnD PR w K mg base 11 R.f_more_file R.d_more_file P_more_file (S_more_file R) := by
  refine fn_d false R.F_more_file sc_more_file (fun h => nomatch h) (fun ds M P E ⟨_, _, e, _⟩ => by rw [e]; rfl) fun cdv A outer s H E hr ds M Pd PE h => ?_
  obtain ⟨a_one, a_other, rfl, h⟩ := h
  have hu := hr.units
  refine WS.ends ?_
  refine ws_expr <| ex_callF (ok_check_two R) (hr.mono (by decide)) R.m_check_two R.F_check_two R.b_check_two <| ea_cons <| ex_var ⟨rfl, rfl⟩ <| ea_cons <| ex_var ⟨rfl, rfl⟩ <| ea_nil <| ⟨a_one, a_other, rfl, outU (ob h) (fun z1 h => ?_) (fun _ h => dX [] h)⟩
  exact ws_ret <| ex_callF (ok_more_of R) (hr.mono (by decide)) R.m_more_of R.F_more_of R.b_more_of <| ea_cons <| ex_var ⟨rfl, rfl⟩ <| ea_cons <| ex_var ⟨rfl, rfl⟩ <| ea_nil <| ⟨a_one, a_other, rfl, outU (ob h) (fun z2 h => (dN [] h)) (fun _ h => dX [] h)⟩

def S_Script_add (R : Prg K mg) : Spc := fun ds M P E => ∃ (a_self : (List StepT)) (a_other : (List StepT)), ds = [((scriptD R) a_self), ((scriptD R) a_other)] ∧ (m_Script_add a_self a_other).Out (fun r => P ((scriptD R) r) M) (fun x => E (exE R x) M)
theorem ok_Script_add (R : Prg K mg) : FnD PR w K mg base 4 R.f_Script_add R.d_Script_add P_Script_add (S_Script_add R) := by
  refine fn_d false R.F_Script_add sc_Script_add (fun h => nomatch h) (fun ds M P E ⟨_, _, e, _⟩ => by rw [e]; rfl) fun cdv A outer s H E hr ds M Pd PE h => ?_
  obtain ⟨a_self, a_other, rfl, h⟩ := h
  have hu := hr.units
  refine WS.ends ?_
  refine ws_if <| et_not <| et_val <| ex_callB R.n_isinstance PyProof.Rows.Boot.«isinstance» <| ea_cons <| ex_var ⟨rfl, rfl⟩ <| ea_cons <| ex_gref R.mc_Script <| ea_nil <| c_isi (k := true) (.own _) (.obj R.L_Script) R.s_Script_Script <| ⟨_, rfl, (fun z => absurd z (by decide)), fun _ => ?_⟩
  refine ws_nil ?_
  exact ws_ret <| ex_make R.K_Script (ok_Script_init R) (hr.mono (by decide)) R.mc_Script R.b_Script_init .nil (fun _ => .nil) <| ea_cons <| ex_callTy R.n_list PyProof.Rows.Boot.«list» <| ea_cons <| ex_bin <| ex_fld <| ex_var ⟨rfl, rfl⟩ <| ⟨_, ⟨_, R.L_Script.cl, R.A_Script_rows, .inl ⟨_, _, rfl, rfl, rfl⟩⟩, ex_fld <| ex_var ⟨rfl, rfl⟩ <| ⟨_, ⟨_, R.L_Script.cl, R.A_Script_rows, .inl ⟨_, _, rfl, rfl, rfl⟩⟩, r_catT (stepD R) (xs := a_self) (ys := a_other) (ob h) fun z1 h => ea_nil <| c_listV (stepD R) (xs := z1) <| ea_nil <| fun q dx _ _ _ => mk_Script (ob h) (fun z2 h => (dN [] h)) (fun _ h => dX [_] h)⟩⟩

def S_exchangeable (R : Prg K mg) : Spc := fun ds M P E => ∃ (a_one : (List StepT)) (a_other : (List StepT)), ds = [((scriptD R) a_one), ((scriptD R) a_other)] ∧ (m_exchangeable a_one a_other).Out (fun r => P (.bl r) M) (fun x => E (exE R x) M)
theorem ok_exchangeable (R : Prg K mg) : FnD PR w K mg base 12 R.f_exchangeable R.d_exchangeable P_exchangeable (S_exchangeable R) := by
  refine fn_d false R.F_exchangeable sc_exchangeable (fun h => nomatch h) (fun ds M P E ⟨_, _, e, _⟩ => by rw [e]; rfl) fun cdv A outer s H E hr ds M Pd PE h => ?_
  obtain ⟨a_one, a_other, rfl, h⟩ := h
  have hu := hr.units
  refine WS.ends ?_
  refine ws_expr <| ex_callF (ok_check_two R) (hr.mono (by decide)) R.m_check_two R.F_check_two R.b_check_two <| ea_cons <| ex_var ⟨rfl, rfl⟩ <| ea_cons <| ex_var ⟨rfl, rfl⟩ <| ea_nil <| ⟨a_one, a_other, rfl, outU (ob h) (fun z1 h => ?_) (fun _ h => dX [] h)⟩
  exact ws_ret <| ex_cmp <| ex_callF (ok_parting_of R) (hr.mono (by decide)) R.m_parting_of R.F_parting_of R.b_parting_of <| ea_cons <| ex_bin <| ex_var ⟨rfl, rfl⟩ <| ex_var ⟨rfl, rfl⟩ <| o_binOwn (ok_Script_add R) (hr.mono (by decide)) R.bo_Script_add R.M_Script_add.2 R.b_Script_add R.sf_Script (fun _ => .inl ⟨_, _, rfl, by decide⟩) (fun _ => .inl ⟨_, _, rfl, by decide⟩) ⟨a_one, a_other, rfl, outU (ne_out (E' := fun _ => False) (ob h)) (fun z2 h => ⟨rfl, ea_cons <| ex_bin <| ex_var ⟨rfl, rfl⟩ <| ex_var ⟨rfl, rfl⟩ <| o_binOwn (ok_Script_add R) (hr.mono (by decide)) R.bo_Script_add R.M_Script_add.2 R.b_Script_add R.sf_Script (fun _ => .inl ⟨_, _, rfl, by decide⟩) (fun _ => .inl ⟨_, _, rfl, by decide⟩) ⟨a_other, a_one, rfl, outU (ne_out (E' := fun _ => False) (ob h)) (fun z3 h => ⟨rfl, ea_nil <| ⟨z2, z3, rfl, outU (ob h) (fun z4 h => ex_non <| o_isNT (fileD R) (fun _ => ⟨rfl, fun _ z => nomatch z⟩) <| (dN [] h)) (fun _ h => dX [] h)⟩⟩) (fun _ h => h.elim)⟩⟩) (fun _ h => h.elim)⟩

def S_cells_of (R : Prg K mg) : Spc := fun ds M P E => ∃ (a_bits : Int) (a_first : Int) (a_period : Int), ds = [(.int a_bits), (.int a_first), (.int a_period)] ∧ (m_cells_of a_bits a_first a_period).Out (fun r => P ((lstD Dat.int) r) M) (fun x => E (exE R x) M)
theorem ok_cells_of (R : Prg K mg) : FnD PR w K mg base 1 R.f_cells_of R.d_cells_of P_cells_of (S_cells_of R) := by
  refine fn_d false R.F_cells_of sc_cells_of (fun h => nomatch h) (fun ds M P E ⟨_, _, _, e, _⟩ => by rw [e]; rfl) fun cdv A outer s H E hr ds M Pd PE h => ?_
  obtain ⟨a_bits, a_first, a_period, rfl, h⟩ := h
  have hu := hr.units
  refine WS.ends ?_
  exact ws_ret <| ex_lcT [("at", 3)] <| ei_rng1 R.n_range <| ex_var ⟨rfl, rfl⟩ <| ⟨a_period, rfl, (gd (ob h)).1, have h := (gd (ob h)).2; compT Dat.int Dat.int (xs := (rangeL 0 (Int.toNat a_period))) (ob h) trivial (fun x1 _ h s H C cl fp => gc_name  <| fun s H C cl fp => ef_one <| et_cmp <| ex_bin <| ex_bin <| ex_var ⟨rfl, rfl⟩ <| ex_var ⟨rfl, rfl⟩ <| r_shr (ob h) fun z2 h => ex_int <| o_band <| ex_int <| o_eqI <| ⟨_, rfl, cif h (fun h => fun s H C cl fp => ex_bin <| ex_var ⟨rfl, rfl⟩ <| ex_var ⟨rfl, rfl⟩ <| o_add <| ⟨rfl, (a_first + x1), rfl, h⟩) (fun h => ⟨rfl, h⟩)⟩) (fun l3 h => (dN [] h))⟩

def S_reasons (R : Prg K mg) : Spc := fun ds M P E => ∃ (a_script : (List StepT)) (a_cell : Int), ds = [((scriptD R) a_script), (.int a_cell)] ∧ (m_reasons a_script a_cell).Out (fun r => P ((lstD (pairD (lstD Dat.int) (lstD Dat.int))) r) M) (fun x => E (exE R x) M)
theorem ok_reasons (R : Prg K mg) : FnD PR w K mg base 9 R.f_reasons R.d_reasons P_reasons (S_reasons R) := by
  refine fn_d false R.F_reasons sc_reasons (fun h => nomatch h) (fun ds M P E ⟨_, _, e, _⟩ => by rw [e]; rfl) fun cdv A outer s H E hr ds M Pd PE h => ?_
  obtain ⟨a_script, a_cell, rfl, h⟩ := h
  have hu := hr.units
  refine WS.ends ?_
  refine ws_expr <| ex_callF (ok_check_script R) (hr.mono (by decide)) R.m_check_script R.F_check_script R.b_check_script <| ea_cons <| ex_var ⟨rfl, rfl⟩ <| ea_nil <| ⟨a_script, rfl, outU (ob h) (fun z1 h => ?_) (fun _ h => dX [] h)⟩
  refine ws_expr <| ex_callF (ok_check_least R) (hr.mono (by decide)) R.m_check_least R.F_check_least R.b_check_least <| ea_cons <| ex_var ⟨rfl, rfl⟩ <| ea_cons <| ex_int <| ea_nil <| ⟨a_cell, (0 : Int), rfl, outU (ob h) (fun z2 h => ?_) (fun _ h => dX [] h)⟩
  refine ws_set <| ex_prop R.L_Script.cl R.V_Script_period (ok_Script_period R) (hr.mono (by decide)) R.b_Script_period <| ex_var ⟨rfl, rfl⟩ <| ⟨⟨"", .inl ⟨_, _, rfl, by decide⟩⟩, ap_all ⟨a_script, rfl, outU (ne_out (E' := fun _ => False) (ob h)) (fun z3 h => ?_) (fun _ h => h.elim)⟩⟩
  refine ws_set <| ex_bin <| ex_bin <| ex_var ⟨rfl, rfl⟩ <| ex_var ⟨rfl, rfl⟩ <| r_div (ob h) fun z4 h => ex_var ⟨rfl, rfl⟩ <| r_mul (ob h) fun z5 h => ?_
  refine ws_set <| ex_ix <| ex_callF (ok_reason_table R) (hr.mono (by decide)) R.m_reason_table R.F_reason_table R.b_reason_table <| ea_cons <| ex_var ⟨rfl, rfl⟩ <| ea_nil <| ⟨a_script, rfl, outU (ob h) (fun z6 h => ex_bin <| ex_var ⟨rfl, rfl⟩ <| ex_var ⟨rfl, rfl⟩ <| o_sub <| r_ix (lstD (pairD Dat.int Dat.int)) (xs := z6) (ob h) fun z7 h => ?_) (fun _ h => dX [] h)⟩
  refine ws_setLcT [("written", 6), ("signs", 7)] <| ei_list <| ex_var ⟨rfl, rfl⟩ <| ⟨_, rfl, compT (pairD Dat.int Dat.int) (pairD (lstD Dat.int) (lstD Dat.int)) (xs := z7) (ob h) trivial (fun x8 _ h s H C cl fp => gc_tup <| gcs_cons <| gc_name  <| gcs_cons <| gc_name  <| gcs_nil <| fun s H C cl fp => ef_nil ⟨fun _ s H C cl fp => ex_tup <| ea_cons <| ex_callF (ok_cells_of R) (hr.mono (by decide)) R.m_cells_of R.F_cells_of R.b_cells_of <| ea_cons <| ex_var ⟨rfl, rfl⟩ <| ea_cons <| ex_var ⟨rfl, rfl⟩ <| ea_cons <| ex_var ⟨rfl, rfl⟩ <| ea_nil <| ⟨x8.2, z5, z3, rfl, outU (ob h) (fun z9 h => ea_cons <| ex_callF (ok_cells_of R) (hr.mono (by decide)) R.m_cells_of R.F_cells_of R.b_cells_of <| ea_cons <| ex_bin <| ex_var ⟨rfl, rfl⟩ <| ex_var ⟨rfl, rfl⟩ <| o_sub <| ea_cons <| ex_var ⟨rfl, rfl⟩ <| ea_cons <| ex_var ⟨rfl, rfl⟩ <| ea_nil <| ⟨(x8.1 - x8.2), z5, z3, rfl, outU (ob h) (fun z10 h => ea_nil ⟨ln, ⟨rfl, (z9, z10), rfl, h⟩⟩) (fun _ h => h)⟩) (fun _ h => h)⟩, fun z => nomatch z⟩) (fun l11 h => ?_)⟩
  exact ws_ret <| ex_callB R.n_sorted PyProof.Rows.Boot.«sorted» <| ea_cons <| ex_var ⟨rfl, rfl⟩ <| ea_nil <| c_sortD (py2 (pyL pyI) (pyL pyI)) (pys2 (pysL pysI) (pysL pysI)) (xs := l11) (.inl rfl) hu (ob h) fun z12 h => (dN [] h)

def S_are_sizes (R : Prg K mg) : Spc := fun ds M P E => ∃ (a_value : (List Int)), ds = [((lstD Dat.int) a_value)] ∧ (m_are_sizes a_value).Out (fun r => P (.bl r) M) (fun x => E (exE R x) M)
theorem ok_are_sizes (R : Prg K mg) : FnD PR w K mg base 2 R.f_are_sizes R.d_are_sizes P_are_sizes (S_are_sizes R) := by
  refine fn_d false R.F_are_sizes sc_are_sizes (fun h => nomatch h) (fun ds M P E ⟨_, e, _⟩ => by rw [e]; rfl) fun cdv A outer s H E hr ds M Pd PE h => ?_
  obtain ⟨a_value, rfl, h⟩ := h
  have hu := hr.units
  refine WS.ends ?_
  exact ws_ret <| exJQ Dat.bl (ob h) (fun _ h => exA h (fun _ h => ex_callB R.n_isinstance PyProof.Rows.Boot.«isinstance» <| ea_cons <| ex_var ⟨rfl, rfl⟩ <| ea_cons <| ex_gty R.n_list PyProof.Rows.Boot.«list» <| ea_nil <| c_isi (k := true) (.ty _) .lst (by rfl) <| ⟨rfl, true, rfl, h⟩) (fun h => ex_and1 <| ex_cmp <| ex_lcT [("size", 1)] <| ei_list <| ex_var ⟨rfl, rfl⟩ <| ⟨_, rfl, compT Dat.int Dat.int (xs := a_value) (ob h) trivial (fun x1 _ h s H C cl fp => gc_name  <| fun s H C cl fp => ef_one <| etJQ (ob h) (fun _ h => et_w <| ewO h (fun _ h => etN h (fun _ h => et_val <| ex_callF (ok_is_whole R) (hr.mono (by decide)) R.m_is_whole R.F_is_whole R.b_is_whole <| ea_cons <| ex_var ⟨rfl, rfl⟩ <| ea_nil <| ⟨x1, rfl, outU (ob h) (fun z2 h => ⟨_, rfl, rfl, h⟩) (fun _ h => h)⟩)) (fun h => ew_or1 <| et_cmp <| ex_var ⟨rfl, rfl⟩ <| ex_int <| o_lt <| ⟨_, rfl, rfl, h⟩)) fun t3 h => cif h (fun h => fun s H C cl fp => ex_var ⟨rfl, rfl⟩ <| ⟨rfl, x1, rfl, h⟩) (fun h => ⟨rfl, h⟩)) (fun l4 h => ex_lst <| ea_nil ⟨ln, r_eqNilT Dat.int hu <| ⟨rfl, (l4.isEmpty), rfl, h⟩⟩)⟩)) fun z5 h => (dN [] h)

def S_widened (R : Prg K mg) : Spc := fun ds M P E => ∃ (a_stretch : (Int × Int)) (a_size : Int), ds = [((pairD Dat.int Dat.int) a_stretch), (.int a_size)] ∧ (m_widened a_stretch a_size).Out (fun r => P ((pairD Dat.int Dat.int) r) M) (fun x => E (exE R x) M)
theorem ok_widened (R : Prg K mg) : FnD PR w K mg base 1 R.f_widened R.d_widened P_widened (S_widened R) := by
  refine fn_d false R.F_widened sc_widened (fun h => nomatch h) (fun ds M P E ⟨_, _, e, _⟩ => by rw [e]; rfl) fun cdv A outer s H E hr ds M Pd PE h => ?_
  obtain ⟨a_stretch, a_size, rfl, h⟩ := h
  have hu := hr.units
  refine WS.ends ?_
  refine ws_asg <| ex_var ⟨rfl, rfl⟩ <| gx_tup <| gxs_cons <| gx_name  <| gxs_cons <| gx_name  <| gxs_nil <| ?_
  exact ws_ret <| ex_tup <| ea_cons <| ex_bin <| ex_bin <| ex_var ⟨rfl, rfl⟩ <| ex_var ⟨rfl, rfl⟩ <| r_div (ob h) fun z1 h => ex_var ⟨rfl, rfl⟩ <| r_mul (ob h) fun z2 h => ea_cons <| ex_bin <| ex_bin <| ex_bin <| ex_bin <| ex_var ⟨rfl, rfl⟩ <| ex_var ⟨rfl, rfl⟩ <| o_add <| ex_int <| o_sub <| ex_var ⟨rfl, rfl⟩ <| r_div (ob h) fun z3 h => ex_var ⟨rfl, rfl⟩ <| r_mul (ob h) fun z4 h => ea_nil ⟨ln, (dN [] h)⟩

def S_spread (R : Prg K mg) : Spc := fun ds M P E => ∃ (a_sizes : (List Int)) (a_cell : Int), ds = [((lstD Dat.int) a_sizes), (.int a_cell)] ∧ (m_spread a_sizes a_cell).Out (fun r => P ((pairD Dat.int Dat.int) r) M) (fun x => E (exE R x) M)
theorem ok_spread (R : Prg K mg) : FnD PR w K mg base 3 R.f_spread R.d_spread P_spread (S_spread R) := by
  refine fn_d false R.F_spread sc_spread (fun h => nomatch h) (fun ds M P E ⟨_, _, e, _⟩ => by rw [e]; rfl) fun cdv A outer s H E hr ds M Pd PE h => ?_
  obtain ⟨a_sizes, a_cell, rfl, h⟩ := h
  have hu := hr.units
  refine WS.ends ?_
  refine ws_if <| et_not <| et_val <| ex_callF (ok_are_sizes R) (hr.mono (by decide)) R.m_are_sizes R.F_are_sizes R.b_are_sizes <| ea_cons <| ex_var ⟨rfl, rfl⟩ <| ea_nil <| ⟨a_sizes, rfl, outU (ob h) (fun z1 h => ⟨_, rfl, cifN h (fun h => ?g14) (fun h => ?g2)⟩) (fun _ h => dX [] h)⟩
  case g2 =>
    exact ws_raise rfl R.S_InvalidList R.mc_InvalidList R.n_super hr <| ex_asA <| ex_var ⟨rfl, rfl⟩ <| ⟨anyD (clR R) (Any.lst (a_sizes.map Any.int)), (by first | rfl | (simp only [anyD, anyDL, anyDL_map, List.map_map]; done) | (simp only [anyD, anyDL, anyDL_map, List.map_map]; rfl) | (simp only [anyD, anyDL, anyDL_map, List.map_map, stepA_comp, stepA_D]; rfl) | (simp only [anyD, anyDL, anyDL_map, List.map_map, stepA_comp, stepA_D]; done)), (dX [] h)⟩
  case g14 =>
    refine ws_nil ?_
    refine ws_expr <| ex_callF (ok_check_least R) (hr.mono (by decide)) R.m_check_least R.F_check_least R.b_check_least <| ea_cons <| ex_var ⟨rfl, rfl⟩ <| ea_cons <| ex_int <| ea_nil <| ⟨a_cell, (0 : Int), rfl, outU (ob h) (fun z3 h => ?_) (fun _ h => dX [] h)⟩
    refine ws_set <| ex_tup <| ea_cons <| ex_var ⟨rfl, rfl⟩ <| ea_cons <| ex_bin <| ex_var ⟨rfl, rfl⟩ <| ex_int <| o_add <| ea_nil ⟨ln, ?_⟩
    refine ws_forT <| ei_list <| ex_var ⟨rfl, rfl⟩ <| ⟨_, rfl, foldT Dat.int (xs := a_sizes) (fun (s4 : (Int × Int)) τ M' => ∃ d3, [some ((lstD Dat.int) a_sizes), some (.int a_cell), some ((pairD Dat.int Dat.int) s4), d3] = τ ∧ M = M') (ob h) ⟨_, rfl, rfl⟩ (fun _ _ _ _ => trivial) ?g10 ?g11⟩
    case g10 =>
      rintro x5 s4 _ _ N ⟨d3, rfl, rfl⟩ h
      refine gx_name  <| ?_
      refine ws_set <| ex_callF (ok_widened R) (hr.mono (by decide)) R.m_widened R.F_widened R.b_widened <| ea_cons <| ex_var ⟨rfl, rfl⟩ <| ea_cons <| ex_var ⟨rfl, rfl⟩ <| ea_nil <| ⟨s4, x5, rfl, outU (ob h) (fun z8 h => ?_) (fun _ h => dX [] h)⟩
      exact ws_nil ⟨z8, ⟨_, rfl, rfl⟩, h⟩
    case g11 =>
      rintro s4 _ _ ⟨d3, rfl, rfl⟩ h
      exact ws_ret <| ex_var ⟨rfl, rfl⟩ <| (dN [] h)

def S_rounds_spread (R : Prg K mg) : Spc := fun ds M P E => ∃ (a_one : Int) (a_other : Int) (a_rounds : Int) (a_cell : Int), ds = [(.int a_one), (.int a_other), (.int a_rounds), (.int a_cell)] ∧ (m_rounds_spread a_one a_other a_rounds a_cell).Out (fun r => P ((pairD Dat.int Dat.int) r) M) (fun x => E (exE R x) M)
theorem ok_rounds_spread (R : Prg K mg) : FnD PR w K mg base 3 R.f_rounds_spread R.d_rounds_spread P_rounds_spread (S_rounds_spread R) := by
  refine fn_d false R.F_rounds_spread sc_rounds_spread (fun h => nomatch h) (fun ds M P E ⟨_, _, _, _, e, _⟩ => by rw [e]; rfl) fun cdv A outer s H E hr ds M Pd PE h => ?_
  obtain ⟨a_one, a_other, a_rounds, a_cell, rfl, h⟩ := h
  have hu := hr.units
  refine WS.ends ?_
  refine ws_expr <| ex_callF (ok_check_least R) (hr.mono (by decide)) R.m_check_least R.F_check_least R.b_check_least <| ea_cons <| ex_var ⟨rfl, rfl⟩ <| ea_cons <| ex_int <| ea_nil <| ⟨a_one, (1 : Int), rfl, outU (ob h) (fun z1 h => ?_) (fun _ h => dX [] h)⟩
  refine ws_expr <| ex_callF (ok_check_least R) (hr.mono (by decide)) R.m_check_least R.F_check_least R.b_check_least <| ea_cons <| ex_var ⟨rfl, rfl⟩ <| ea_cons <| ex_int <| ea_nil <| ⟨a_other, (1 : Int), rfl, outU (ob h) (fun z2 h => ?_) (fun _ h => dX [] h)⟩
  refine ws_expr <| ex_callF (ok_check_least R) (hr.mono (by decide)) R.m_check_least R.F_check_least R.b_check_least <| ea_cons <| ex_var ⟨rfl, rfl⟩ <| ea_cons <| ex_int <| ea_nil <| ⟨a_rounds, (0 : Int), rfl, outU (ob h) (fun z3 h => ?_) (fun _ h => dX [] h)⟩
  refine ws_expr <| ex_callF (ok_check_least R) (hr.mono (by decide)) R.m_check_least R.F_check_least R.b_check_least <| ea_cons <| ex_var ⟨rfl, rfl⟩ <| ea_cons <| ex_int <| ea_nil <| ⟨a_cell, (0 : Int), rfl, outU (ob h) (fun z4 h => ?_) (fun _ h => dX [] h)⟩
  refine ws_set <| ex_tup <| ea_cons <| ex_var ⟨rfl, rfl⟩ <| ea_cons <| ex_bin <| ex_var ⟨rfl, rfl⟩ <| ex_int <| o_add <| ea_nil ⟨ln, ?_⟩
  refine ws_if <| et_cmp <| ex_var ⟨rfl, rfl⟩ <| ex_int <| o_eqI <| ⟨_, rfl, cif h (fun h => ?g5) (fun h => ?g30)⟩
  case g5 =>
    exact ws_ret <| ex_var ⟨rfl, rfl⟩ <| (dN [] h)
  case g30 =>
    refine ws_nil ?_
    refine ws_set <| ex_callB R.n_max PyProof.Rows.Boot.«max» <| ea_cons <| ex_var ⟨rfl, rfl⟩ <| ea_cons <| ex_var ⟨rfl, rfl⟩ <| ea_nil <| c_maxT <| ?_
    refine ws_set <| ex_callF (ok_widened R) (hr.mono (by decide)) R.m_widened R.F_widened R.b_widened <| ea_cons <| ex_var ⟨rfl, rfl⟩ <| ea_cons <| ex_var ⟨rfl, rfl⟩ <| ea_nil <| ⟨(a_cell, (a_cell + (1 : Int))), a_one, rfl, outU (ob h) (fun z6 h => ?_) (fun _ h => dX [] h)⟩
    refine ws_ifQ (fun Q τ M' => ∃ s7 : (Int × Int), ∃ d6 d7 d8, [some (.int a_one), some (.int a_other), some (.int a_rounds), some (.int a_cell), some ((pairD Dat.int Dat.int) s7), some (.int (max a_one a_other)), d6, d7, d8] = τ ∧ M = M' ∧ Q s7) (ob h) (fun _ h => et_cmp <| ex_var ⟨rfl, rfl⟩ <| ex_var ⟨rfl, rfl⟩ <| o_neI <| ⟨_, rfl, cif h (fun h => ?g10) (fun h => ?g11)⟩) ?k27
    case g10 =>
      refine ws_set <| ex_callF (ok_widened R) (hr.mono (by decide)) R.m_widened R.F_widened R.b_widened <| ea_cons <| ex_var ⟨rfl, rfl⟩ <| ea_cons <| ex_var ⟨rfl, rfl⟩ <| ea_nil <| ⟨z6, a_other, rfl, outU (ob h) (fun z8 h => ?_) (fun _ h => dX [] h)⟩
      exact ws_nil ⟨z8, _, _, _, rfl, rfl, h⟩
    case g11 =>
      exact ws_nil ⟨z6, _, _, _, rfl, rfl, h⟩
    case k27 =>
      rintro _ _ ⟨s7, d6, d7, d8, rfl, rfl, h⟩
      refine ws_set <| ex_bin <| ex_callB R.n_min PyProof.Rows.Boot.«min» <| ea_cons <| ex_var ⟨rfl, rfl⟩ <| ea_cons <| ex_var ⟨rfl, rfl⟩ <| ea_nil <| c_minT <| ex_callF (ok_divisor_of R) (hr.mono (by decide)) R.m_divisor_of R.F_divisor_of R.b_divisor_of <| ea_cons <| ex_var ⟨rfl, rfl⟩ <| ea_cons <| ex_var ⟨rfl, rfl⟩ <| ea_nil <| ⟨a_one, a_other, rfl, outU (ob h) (fun z12 h => r_div (ob h) fun z13 h => ?_) (fun _ h => dX [] h)⟩
      refine ws_par <| ea_cons <| ex_bin <| ex_ix <| ex_var ⟨rfl, rfl⟩ <| ex_int <| i_tup rfl <| ex_var ⟨rfl, rfl⟩ <| r_div (ob h) fun z14 h => ea_cons <| ex_bin <| ex_ix <| ex_var ⟨rfl, rfl⟩ <| ex_int <| i_tup rfl <| ex_var ⟨rfl, rfl⟩ <| r_div (ob h) fun z15 h => ea_nil ⟨_, _, rfl, ?_⟩
      refine ws_set <| ex_callB R.n_max PyProof.Rows.Boot.«max» <| ea_cons <| ex_bin <| ex_bin <| ex_var ⟨rfl, rfl⟩ <| ex_var ⟨rfl, rfl⟩ <| o_sub <| ex_int <| o_add <| ea_cons <| ex_bin <| ex_bin <| ex_var ⟨rfl, rfl⟩ <| ex_var ⟨rfl, rfl⟩ <| r_div (ob h) fun z16 h => ex_var ⟨rfl, rfl⟩ <| r_mul (ob h) fun z17 h => ea_nil <| c_maxT <| ?_
      refine ws_set <| ex_callB R.n_min PyProof.Rows.Boot.«min» <| ea_cons <| ex_bin <| ex_bin <| ex_var ⟨rfl, rfl⟩ <| ex_var ⟨rfl, rfl⟩ <| o_add <| ex_int <| o_sub <| ea_cons <| ex_bin <| ex_bin <| ex_bin <| ex_bin <| ex_var ⟨rfl, rfl⟩ <| ex_var ⟨rfl, rfl⟩ <| o_add <| ex_int <| o_sub <| ex_var ⟨rfl, rfl⟩ <| r_div (ob h) fun z18 h => ex_var ⟨rfl, rfl⟩ <| r_mul (ob h) fun z19 h => ea_nil <| c_minT <| ?_
      exact ws_ret <| ex_callF (ok_widened R) (hr.mono (by decide)) R.m_widened R.F_widened R.b_widened <| ea_cons <| ex_tup <| ea_cons <| ex_bin <| ex_var ⟨rfl, rfl⟩ <| ex_var ⟨rfl, rfl⟩ <| r_mul (ob h) fun z20 h => ea_cons <| ex_bin <| ex_var ⟨rfl, rfl⟩ <| ex_var ⟨rfl, rfl⟩ <| r_mul (ob h) fun z21 h => ea_nil ⟨ln, ea_cons <| ex_var ⟨rfl, rfl⟩ <| ea_nil <| ⟨(z20, z21), a_other, rfl, outU (ob h) (fun z22 h => (dN [] h)) (fun _ h => dX [] h)⟩⟩

def S_settles (R : Prg K mg) : Spc := fun ds M P E => ∃ (a_one : Int) (a_other : Int), ds = [(.int a_one), (.int a_other)] ∧ (m_settles a_one a_other).Out (fun r => P (.int r) M) (fun x => E (exE R x) M)
theorem ok_settles (R : Prg K mg) : FnD PR w K mg base 3 R.f_settles R.d_settles P_settles (S_settles R) := by
  refine fn_d false R.F_settles sc_settles (fun h => nomatch h) (fun ds M P E ⟨_, _, e, _⟩ => by rw [e]; rfl) fun cdv A outer s H E hr ds M Pd PE h => ?_
  obtain ⟨a_one, a_other, rfl, h⟩ := h
  have hu := hr.units
  refine WS.ends ?_
  refine ws_expr <| ex_callF (ok_check_least R) (hr.mono (by decide)) R.m_check_least R.F_check_least R.b_check_least <| ea_cons <| ex_var ⟨rfl, rfl⟩ <| ea_cons <| ex_int <| ea_nil <| ⟨a_one, (1 : Int), rfl, outU (ob h) (fun z1 h => ?_) (fun _ h => dX [] h)⟩
  refine ws_expr <| ex_callF (ok_check_least R) (hr.mono (by decide)) R.m_check_least R.F_check_least R.b_check_least <| ea_cons <| ex_var ⟨rfl, rfl⟩ <| ea_cons <| ex_int <| ea_nil <| ⟨a_other, (1 : Int), rfl, outU (ob h) (fun z2 h => ?_) (fun _ h => dX [] h)⟩
  exact ws_ret <| ex_bin <| ex_callB R.n_min PyProof.Rows.Boot.«min» <| ea_cons <| ex_var ⟨rfl, rfl⟩ <| ea_cons <| ex_var ⟨rfl, rfl⟩ <| ea_nil <| c_minT <| ex_callF (ok_divisor_of R) (hr.mono (by decide)) R.m_divisor_of R.F_divisor_of R.b_divisor_of <| ea_cons <| ex_var ⟨rfl, rfl⟩ <| ea_cons <| ex_var ⟨rfl, rfl⟩ <| ea_nil <| ⟨a_one, a_other, rfl, outU (ob h) (fun z3 h => r_div (ob h) fun z4 h => (dN [] h)) (fun _ h => dX [] h)⟩

def S_law_rest_right (R : Prg K mg) : Spc := fun ds M P E => ∃ (a_x : (List StepT)) (a_y : (List StepT)) (a_u : Int) (a_v : Int), ds = [((scriptD R) a_x), ((scriptD R) a_y), (.int a_u), (.int a_v)] ∧ (m_law_rest_right a_x a_y a_u a_v).Out (fun r => P (.bl r) M) (fun x => E (exE R x) M)
theorem ok_law_rest_right (R : Prg K mg) : FnD PR w K mg base 13 R.f_law_rest_right R.d_law_rest_right P_law_rest_right (S_law_rest_right R) := by
  refine fn_d false R.F_law_rest_right sc_law_rest_right (fun h => nomatch h) (fun ds M P E ⟨_, _, _, _, e, _⟩ => by rw [e]; rfl) fun cdv A outer s H E hr ds M Pd PE h => ?_
  obtain ⟨a_x, a_y, a_u, a_v, rfl, h⟩ := h
  have hu := hr.units
  refine WS.ends ?_
  refine ws_if <| et_w <| ew_or <| et_cmp <| ex_callK0 (ok_alike R) (hr.mono (by decide)) R.m_alike R.F_alike.kp R.kb_alike_0_other_one <| ek_cons <| ex_var ⟨rfl, rfl⟩ <| ek_cons <| ex_var ⟨rfl, rfl⟩ <| ek_nil ⟨rfl, ⟨a_x, a_y, rfl, outU (ob h) (fun z1 h => ex_callF (ok_alike R) (hr.mono (by decide)) R.m_alike R.F_alike R.b_alike <| ea_cons <| ex_var ⟨rfl, rfl⟩ <| ea_cons <| ex_var ⟨rfl, rfl⟩ <| ea_nil <| ⟨a_x, a_y, rfl, outU (ob h) (fun z2 h => o_neB <| ⟨_, rfl, cif h (fun h => ⟨fun _ => ?g3, fun z => nomatch z⟩) (fun h => ew_or1 <| et_cmp <| ex_callK0 (ok_never_more R) (hr.mono (by decide)) R.m_never_more R.F_never_more.kp R.kb_never_more_0_other_one <| ek_cons <| ex_var ⟨rfl, rfl⟩ <| ek_cons <| ex_var ⟨rfl, rfl⟩ <| ek_nil ⟨rfl, ⟨a_x, a_y, rfl, outU (ob h) (fun z4 h => ex_callF (ok_never_more R) (hr.mono (by decide)) R.m_never_more R.F_never_more R.b_never_more <| ea_cons <| ex_var ⟨rfl, rfl⟩ <| ea_cons <| ex_var ⟨rfl, rfl⟩ <| ea_nil <| ⟨a_x, a_y, rfl, outU (ob h) (fun z5 h => o_neB <| ⟨_, rfl, cif h (fun h => ?g6) (fun h => ?g36)⟩) (fun _ h => dX [] h)⟩) (fun _ h => dX [] h)⟩⟩)⟩) (fun _ h => dX [] h)⟩) (fun _ h => dX [] h)⟩⟩
  case g3 =>
    exact ws_ret <| ex_bl <| (dN [] h)
  case g6 =>
    exact ws_ret <| ex_bl <| (dN [] h)
  case g36 =>
    refine ws_nil ?_
    refine ws_if <| et_w <| ew_or <| et_cmp <| ex_callK0 (ok_parting R) (hr.mono (by decide)) R.m_parting R.F_parting.kp R.kb_parting_0_other_one <| ek_cons <| ex_var ⟨rfl, rfl⟩ <| ek_cons <| ex_var ⟨rfl, rfl⟩ <| ek_nil ⟨rfl, ⟨a_x, a_y, rfl, outU (ob h) (fun z7 h => ex_callF (ok_parting R) (hr.mono (by decide)) R.m_parting R.F_parting R.b_parting <| ea_cons <| ex_var ⟨rfl, rfl⟩ <| ea_cons <| ex_var ⟨rfl, rfl⟩ <| ea_nil <| ⟨a_x, a_y, rfl, outU (ob h) (fun z8 h => r_neOp (f := fileD R) (me := m_File_eq) (a := z7) (b := z8) (ob h) (fun x9 y9 h k9 => r_neOwn (ok_File_eq R) (hr.mono (by decide)) R.M_File_eq R.ne_File R.L_File R.b_File_eq (fun _ => .inl ⟨_, _, rfl, by decide⟩) (fun _ => .obj R.L_File) nf_self (fun _ _ h => ⟨x9, y9, rfl, out_mono h (fun _ h => h) (fun _ h => h.elim)⟩) h k9) hu fun z9 h => ⟨_, rfl, cif h (fun h => ⟨fun _ => ?g10, fun z => nomatch z⟩) (fun h => ew_or1 <| et_cmp <| ex_callK0 (ok_more_file R) (hr.mono (by decide)) R.m_more_file R.F_more_file.kp R.kb_more_file_0_other_one <| ek_cons <| ex_var ⟨rfl, rfl⟩ <| ek_cons <| ex_var ⟨rfl, rfl⟩ <| ek_nil ⟨rfl, ⟨a_x, a_y, rfl, outU (ob h) (fun z11 h => ex_callF (ok_more_file R) (hr.mono (by decide)) R.m_more_file R.F_more_file R.b_more_file <| ea_cons <| ex_var ⟨rfl, rfl⟩ <| ea_cons <| ex_var ⟨rfl, rfl⟩ <| ea_nil <| ⟨a_x, a_y, rfl, outU (ob h) (fun z12 h => r_neOp (f := fileD R) (me := m_File_eq) (a := z11) (b := z12) (ob h) (fun x9 y9 h k9 => r_neOwn (ok_File_eq R) (hr.mono (by decide)) R.M_File_eq R.ne_File R.L_File R.b_File_eq (fun _ => .inl ⟨_, _, rfl, by decide⟩) (fun _ => .obj R.L_File) nf_self (fun _ _ h => ⟨x9, y9, rfl, out_mono h (fun _ h => h) (fun _ h => h.elim)⟩) h k9) hu fun z13 h => ⟨_, rfl, cif h (fun h => ?g14) (fun h => ?g35)⟩) (fun _ h => dX [] h)⟩) (fun _ h => dX [] h)⟩⟩)⟩) (fun _ h => dX [] h)⟩) (fun _ h => dX [] h)⟩⟩
    case g10 =>
      exact ws_ret <| ex_bl <| (dN [] h)
    case g14 =>
      exact ws_ret <| ex_bl <| (dN [] h)
    case g35 =>
      refine ws_nil ?_
      refine ws_if <| et_w <| ew_or <| et_cmp <| ex_callK0 (ok_exchangeable R) (hr.mono (by decide)) R.m_exchangeable R.F_exchangeable.kp R.kb_exchangeable_0_other_one <| ek_cons <| ex_var ⟨rfl, rfl⟩ <| ek_cons <| ex_var ⟨rfl, rfl⟩ <| ek_nil ⟨rfl, ⟨a_x, a_y, rfl, outU (ob h) (fun z15 h => ex_callF (ok_exchangeable R) (hr.mono (by decide)) R.m_exchangeable R.F_exchangeable R.b_exchangeable <| ea_cons <| ex_var ⟨rfl, rfl⟩ <| ea_cons <| ex_var ⟨rfl, rfl⟩ <| ea_nil <| ⟨a_x, a_y, rfl, outU (ob h) (fun z16 h => o_neB <| ⟨_, rfl, cif h (fun h => ⟨fun _ => ?g17, fun z => nomatch z⟩) (fun h => ew_or1 <| et_cmp <| ex_callK (ok_reasons R) (hr.mono (by decide)) R.m_reasons R.F_reasons.kp R.kb_reasons_1_cell <| ea_cons <| ex_var ⟨rfl, rfl⟩ <| ea_nil ⟨rfl, ek_cons <| ex_var ⟨rfl, rfl⟩ <| ek_nil ⟨rfl, ⟨a_x, a_u, rfl, outU (ob h) (fun z18 h => ex_callF (ok_reasons R) (hr.mono (by decide)) R.m_reasons R.F_reasons R.b_reasons <| ea_cons <| ex_var ⟨rfl, rfl⟩ <| ea_cons <| ex_var ⟨rfl, rfl⟩ <| ea_nil <| ⟨a_x, a_u, rfl, outU (ob h) (fun z19 h => r_neD (pyL (py2 (pyL pyI) (pyL pyI))) z18 z19 hu (ob h) fun z20 h => ⟨_, rfl, cif h (fun h => ?g21) (fun h => ?g34)⟩) (fun _ h => dX [] h)⟩) (fun _ h => dX [] h)⟩⟩⟩)⟩) (fun _ h => dX [] h)⟩) (fun _ h => dX [] h)⟩⟩
      case g17 =>
        exact ws_ret <| ex_bl <| (dN [] h)
      case g21 =>
        exact ws_ret <| ex_bl <| (dN [] h)
      case g34 =>
        refine ws_nil ?_
        refine ws_if <| et_cmp <| ex_callK0 (ok_spread R) (hr.mono (by decide)) R.m_spread R.F_spread.kp R.kb_spread_0_cell_sizes <| ek_cons <| ex_var ⟨rfl, rfl⟩ <| ek_cons <| ex_lst <| ea_cons <| ex_int <| ea_cons <| ex_bin <| ex_var ⟨rfl, rfl⟩ <| ex_int <| o_add <| ea_nil ⟨ln, ek_nil ⟨rfl, ⟨([(2 : Int), (a_v + (1 : Int))] : List Int), a_u, rfl, outU (ob h) (fun z22 h => ex_callF (ok_spread R) (hr.mono (by decide)) R.m_spread R.F_spread R.b_spread <| ea_cons <| ex_lst <| ea_cons <| ex_int <| ea_cons <| ex_bin <| ex_var ⟨rfl, rfl⟩ <| ex_int <| o_add <| ea_nil ⟨ln, ea_cons <| ex_var ⟨rfl, rfl⟩ <| ea_nil <| ⟨([(2 : Int), (a_v + (1 : Int))] : List Int), a_u, rfl, outU (ob h) (fun z23 h => r_neD (py2 pyI pyI) z22 z23 hu (ob h) fun z24 h => ⟨_, rfl, cif h (fun h => ?g25) (fun h => ?g33)⟩) (fun _ h => dX [] h)⟩⟩) (fun _ h => dX [] h)⟩⟩⟩
        case g25 =>
          exact ws_ret <| ex_bl <| (dN [] h)
        case g33 =>
          refine ws_nil ?_
          refine ws_set <| ex_callK0 (ok_rounds_spread R) (hr.mono (by decide)) R.m_rounds_spread R.F_rounds_spread.kp R.kb_rounds_spread_0_cell_rounds_other_one <| ek_cons <| ex_var ⟨rfl, rfl⟩ <| ek_cons <| ex_var ⟨rfl, rfl⟩ <| ek_cons <| ex_int <| ek_cons <| ex_int <| ek_nil ⟨rfl, ⟨(3 : Int), (7 : Int), a_v, a_u, rfl, outU (ob h) (fun z26 h => ?_) (fun _ h => dX [] h)⟩⟩
          exact ws_ret <| exJQ Dat.bl (ob h) (fun _ h => exA h (fun _ h => ex_cmp <| ex_var ⟨rfl, rfl⟩ <| ex_callF (ok_rounds_spread R) (hr.mono (by decide)) R.m_rounds_spread R.F_rounds_spread R.b_rounds_spread <| ea_cons <| ex_int <| ea_cons <| ex_int <| ea_cons <| ex_var ⟨rfl, rfl⟩ <| ea_cons <| ex_var ⟨rfl, rfl⟩ <| ea_nil <| ⟨(3 : Int), (7 : Int), a_v, a_u, rfl, outU (ob h) (fun z27 h => r_eqD (py2 pyI pyI) z26 z27 hu (ob h) fun z28 h => ⟨rfl, z28, rfl, h⟩) (fun _ h => dX [] h)⟩) (fun h => ex_and1 <| ex_cmp <| ex_callK0 (ok_settles R) (hr.mono (by decide)) R.m_settles R.F_settles.kp R.kb_settles_0_other_one <| ek_cons <| ex_int <| ek_cons <| ex_int <| ek_nil ⟨rfl, ⟨(6 : Int), (9 : Int), rfl, outU (ob h) (fun z29 h => ex_callF (ok_settles R) (hr.mono (by decide)) R.m_settles R.F_settles R.b_settles <| ea_cons <| ex_int <| ea_cons <| ex_int <| ea_nil <| ⟨(6 : Int), (9 : Int), rfl, outU (ob h) (fun z30 h => o_eqI <| ⟨rfl, (decide (z29 = z30)), rfl, h⟩) (fun _ h => dX [] h)⟩) (fun _ h => dX [] h)⟩⟩)) fun z31 h => (dN [] h)
end
end Kh

set_option Elab.async false
set_option linter.all false
set_option maxRecDepth 100000
set_option maxHeartbeats 4000000
set_option exponentiation.threshold 20000
namespace Kh
open PySem PySem.Spec L2
/-! ### words for what the defs compute -/
section
variable {α β γ σ ρ : Type}
theorem compL_fm {f : α → Res (Option β)} (g : α → Option β) : ∀ {xs : List α}, (∀ x ∈ xs, f x = .ok (g x)) → compL f xs = .ok (xs.filterMap g)
  | [], _ => rfl
  | x :: xs, h => by
    show (f x).bind _ = _
    rw [h x List.mem_cons_self, bind_ok, compL_fm g fun y hy => h y (List.mem_cons_of_mem _ hy), List.filterMap_cons]
    cases g x <;> rfl
theorem compR_fm {f : α → Res (Option β)} (g : α → Option β) {xs : List α} (hl : xs.length ≤ sizeLine) (h : ∀ x ∈ xs, f x = .ok (g x)) : compR f xs = .ok (xs.filterMap g) := by
  unfold compR; rw [if_pos hl, compL_fm g h]; rfl
theorem compR_none {f : α → Res (Option β)} {xs : List α} (hl : xs.length ≤ sizeLine) (h : ∀ x ∈ xs, f x = .ok none) : compR f xs = .ok [] := by
  rw [compR_fm (fun _ => none) hl h]
  congr 1
  clear h hl
  induction xs with
  | nil => rfl
  | cons x xs ih => simp
theorem peq_ok [DecidableEq α] {ok : α → Bool} {a b : α} (h1 : ok a = true) (h2 : ok b = true) : peq ok a b = .ok (decide (a = b)) := guard_ok ⟨h1, h2⟩
end
theorem sz : sizeLine = 16777216 := sizeLine_eq
/-- a number far below the greatest -/
def Sm (n : Nat) (i : Int) : Prop := i.natAbs < 2 ^ n
theorem Sm.up {n m : Nat} {i : Int} (h : Sm n i) (hm : n ≤ m) : Sm m i := Nat.lt_of_lt_of_le h (Nat.pow_le_pow_right (by decide) hm)
theorem Sm.sub {n : Nat} {i j : Int} (h : Sm n i) (g : Sm n j) : Sm (n + 1) (i - j) := by
  unfold Sm at *; rw [Nat.pow_succ]; omega
theorem Sm.of {n : Nat} {i : Int} (h0 : 0 ≤ i) {b : Int} (hb : i ≤ b) (hn : Sm n b) : Sm n i := by unfold Sm at *; omega
/-! the numbers that a script's number draws -/
def Res.isT : Res Bool → Bool
  | .ok true => true
  | _ => false
theorem of_isT {m : Res Bool} (h : m.isT = true) : m = .ok true := by
  cases m with
  | ok b => cases b <;> first | rfl | cases h
  | err x => cases h
  | bad => cases h
  | all g => cases h
/-! ### what is computed is so: m.Ok P -/
def Res.Ok {α : Type} : Res α → (α → Prop) → Prop
  | .ok a, P => P a
  | _, _ => False
section
variable {α β γ σ ρ : Type}
theorem Res.Ok.get {m : Res α} {P : α → Prop} (h : m.Ok P) : ∃ a, m = .ok a ∧ P a := by
  cases m with
  | ok b => exact ⟨b, rfl, h⟩
  | err x => exact h.elim
  | bad => exact h.elim
  | all g => exact h.elim
theorem Res.Ok.imp {m : Res α} {P Q : α → Prop} (h : m.Ok P) (i : ∀ a, P a → Q a) : m.Ok Q := by
  obtain ⟨a, e, q⟩ := h.get; rw [e]; exact i a q
theorem be {m : Res α} {k : α → Res β} {a : α} {P : β → Prop} (e : m = .ok a) (hk : (k a).Ok P) : (m.bind k).Ok P := by rw [e]; exact hk
end
/-! ### texts as lists of signs -/
abbrev mk (l : List Nat) : Str := ⟨l.toArray⟩
theorem s_ext {x y : Str} (h : signsL x = signsL y) : x = y := TL.ext_tl h
theorem pcat_mk {a b : Str} (h : a.length + b.length ≤ 1000000) : pcat a b = .ok (mk (signsL a ++ signsL b)) := by
  unfold pcat
  rw [guard_ok (by rw [sz]; omega)]
  congr 1
  exact s_ext (TL.tl_append a b)
theorem pslS_mk {z : Str} {lo hi : Option Int} (hl : z.length ≤ 1000000) : pslS z lo hi = .ok (mk (cutD (signsL z) lo hi)) := by
  unfold pslS
  rw [guard_ok (by rw [sz]; omega)]
  rfl
/-! ### over Res with addresses given out: what a term must answer -/
section
variable {α β σ ρ : Type} {E E' : Er → Prop}
theorem bo {k : α → Res β} {P : α → Prop} {Q : β → Prop} (hk : ∀ a, P a → (k a).Out Q E) (hx : ∀ x, E' x → E x) : ∀ {m : Res α}, m.Out P E' → (m.bind k).Out Q E
  | .ok _, h => hk _ h
  | .err _, h => hx _ h
  | .bad, h => h
  | .all f, h => fun q => bo (m := f q) hk hx (h q)
/-- a loop that is not left early -/
theorem foA {f : σ → α → Res (Ctl σ ρ)} (I : σ → Prop) : ∀ {xs : List α} {s : σ}, I s → (∀ s x, I s → x ∈ xs → (f s x).Out (fun c => ∃ s', c = .nx s' ∧ I s') E) → (forR f xs s).Out (fun c => ∃ s', c = .nx s' ∧ I s') E
  | [], s, h, _ => ⟨s, rfl, h⟩
  | x :: xs, s, h, hf => by
    rw [forR_cons]
    refine bo (fun c hc => ?_) (fun _ h => h) (hf s x h List.mem_cons_self)
    obtain ⟨s', rfl, h'⟩ := hc
    exact foA I h' fun s y hs hy => hf s y hs (List.mem_cons_of_mem _ hy)
end
/-! ### values of any kind equal to themselves by shape or place -/
mutual
def selfA : Any → Bool
  | .lst xs => selfAL xs
  | .tup xs => selfAL xs
  | .dic => false
  | .obj _ _ => false
  | _ => true
def selfAL : List Any → Bool
  | [] => true
  | x :: xs => selfA x && selfAL xs
end
mutual
theorem eqA_self : ∀ {x : Any}, selfA x = true → eqA x x = true
  | .non, _ => by simp [eqA]
  | .bl _, _ => by simp [eqA]
  | .int _, _ => by simp [eqA]
  | .str _, _ => by simp [eqA]
  | .tag _ _, _ => by simp [eqA]
  | .cel _, _ => by simp [eqA]
  | .lst xs, h => by simp only [eqA]; exact eqAL_self (by simpa [selfA] using h)
  | .tup xs, h => by simp only [eqA]; exact eqAL_self (by simpa [selfA] using h)
  | .dic, h => by simp [selfA] at h
  | .obj _ _, h => by simp [selfA] at h
theorem eqAL_self : ∀ {xs : List Any}, selfAL xs = true → eqAL xs xs = true
  | [], _ => by simp [eqAL]
  | x :: xs, h => by
    simp only [selfAL, Bool.and_eq_true] at h
    simp only [eqAL, Bool.and_eq_true]
    exact ⟨eqA_self h.1, eqAL_self h.2⟩
end
/-! ### Out by what is told -/
section
variable {α β σ ρ : Type} {E E' : Er → Prop}
theorem bE {m : Res α} {k : α → Res β} {a : α} {Q : β → Prop} (e : m = .ok a) (hk : (k a).Out Q E) : (m.bind k).Out Q E := by rw [e]; exact hk
theorem oT {c : Bool} {a b : Res α} {P : α → Prop} (e : c = true) (h : a.Out P E) : (cond c a b).Out P E := by rw [e]; exact h
/-- a loop that is not left early, and what comes behind it -/
theorem foF {f : σ → α → Res (Ctl σ ρ)} {k : σ → Res β} {r : ρ → Res β} {xs : List α} {s : σ} {P : β → Prop} (I : σ → Prop) (h0 : I s) (step : ∀ s x, I s → x ∈ xs → (f s x).Out (fun c => ∃ s', c = .nx s' ∧ I s') E) (fin : ∀ s, I s → (k s).Out P E) : ((forR f xs s).bind (Ctl.fin k r)).Out P E := by
  refine bo (P := fun c => ∃ s', c = .nx s' ∧ I s') (fun c hc => ?_) (fun _ h => h) (foA I h0 step)
  obtain ⟨s', rfl, h⟩ := hc
  exact fin s' h
theorem nxA {s : σ} {I : σ → Prop} (h : I s) : (Res.ok (Ctl.nx s : Ctl σ ρ)).Out (fun c => ∃ s', c = .nx s' ∧ I s') E := ⟨s, rfl, h⟩
end
/-! ### k40 -/
def isO {α : Type} : Res α → Bool
  | .ok _ => true
  | _ => false
theorem of_isO {α : Type} {m : Res α} (h : isO m = true) : ∃ r, m = .ok r := by
  cases m with
  | ok b => exact ⟨b, rfl⟩
  | err x => cases h
  | bad => cases h
  | all g => cases h
theorem feq (x : Str) : m_File_eq x x = .ok true := by
  unfold m_File_eq
  rw [decide_eq_true rfl]; rfl
theorem peqO_self (x : Option Str) : peqO m_File_eq x x = .ok true := by
  cases x with
  | none => rfl
  | some z => exact feq z
theorem okP (x : Int × Int) : (py2 pyI pyI).ok x = true := rfl
theorem okRs (xs : List (List Int × List Int)) : (pyL (py2 (pyL pyI) (pyL pyI))).ok xs = true := List.all_eq_true.mpr fun x _ => by
  have h : ∀ l : List Int, (pyL pyI).ok l = true := fun l => List.all_eq_true.mpr fun _ _ => rfl
  show ((pyL pyI).ok x.1 && (pyL pyI).ok x.2) = true
  rw [h, h]; rfl
def restB (x y : List StepT) (u v : Int) : Bool := isO (m_alike x y) && (isO (m_never_more x y) && (isO (m_parting x y) && (isO (m_more_file x y) && (isO (m_exchangeable x y) && (isO (m_reasons x u) && (isO (m_spread ([(2 : Int), (v + (1 : Int))] : List Int) u) && (isO (m_rounds_spread (3 : Int) (7 : Int) v u) && isO (m_settles (6 : Int) (9 : Int)))))))))
theorem rest_ok {x y : List StepT} {u v : Int} (h : restB x y u v = true) : m_law_rest_right x y u v = .ok true := by
  simp only [restB, Bool.and_eq_true] at h
  obtain ⟨h1, h2, h3, h4, h5, h6, h7, h8, h9⟩ := h
  obtain ⟨r1, e1⟩ := of_isO h1
  obtain ⟨r2, e2⟩ := of_isO h2
  obtain ⟨r3, e3⟩ := of_isO h3
  obtain ⟨r4, e4⟩ := of_isO h4
  obtain ⟨r5, e5⟩ := of_isO h5
  obtain ⟨r6, e6⟩ := of_isO h6
  obtain ⟨r7, e7⟩ := of_isO h7
  obtain ⟨r8, e8⟩ := of_isO h8
  obtain ⟨r9, e9⟩ := of_isO h9
  unfold m_law_rest_right
  rw [e1, bind_ok, bind_ok, decide_eq_true rfl, Bool.not_true, cond_false, e2, bind_ok, bind_ok, decide_eq_true rfl, Bool.not_true, cond_false, e3, bind_ok, bind_ok, peqO_self, ne_ok, bind_ok, Bool.not_true, cond_false, e4, bind_ok, bind_ok, peqO_self, ne_ok, bind_ok, Bool.not_true, cond_false,
    e5, bind_ok, bind_ok, decide_eq_true rfl, Bool.not_true, cond_false, e6, bind_ok, bind_ok, peq_ok (okRs _) (okRs _), bind_ok, decide_eq_true rfl, Bool.not_true, cond_false, e7, bind_ok, bind_ok, peq_ok (okP _) (okP _), bind_ok, decide_eq_true rfl, Bool.not_true, cond_false,
    e8, bind_ok, bind_ok, peq_ok (okP _) (okP _), bind_ok, decide_eq_true rfl, andR_ok, cond_true, e9, bind_ok, bind_ok, decide_eq_true rfl, bind_ok]
def X1 (u : Int) : StepT := ([(StepT.dig 4), (StepT.lean 2), StepT.full] : List StepT).getD (u % 3).toNat .full
def Y1 (v : Int) : StepT := ([(StepT.dig 2), (StepT.lean 4), (StepT.keep 1)] : List StepT).getD (v % 3).toNat .full
def W1 (k : Int) : Str := mk (signsL (mk (cutD (signsL ("0.a..b.0." : Str)) (some k) none)) ++ signsL (mk (cutD (signsL ("...." : Str)) none (some k))))
theorem rest_all : (([0, 1, 2, 3] : List Int).all fun u => ([0, 1, 2, 3] : List Int).all fun v => restB [.keep 2, X1 u] [.keep 4, Y1 v] u v) = true := by decide +kernel
theorem files_all0 : (([0, 1, 2, 3] : List Int).all fun u => ([0, 1, 2, 3] : List Int).all fun v => (m_law_files_right (W1 0) u v).isT) = true := by decide +kernel
theorem files_all1 : (([0, 1, 2, 3] : List Int).all fun u => ([0, 1, 2, 3] : List Int).all fun v => (m_law_files_right (W1 1) u v).isT) = true := by decide +kernel
theorem files_all2 : (([0, 1, 2, 3] : List Int).all fun u => ([0, 1, 2, 3] : List Int).all fun v => (m_law_files_right (W1 2) u v).isT) = true := by decide +kernel
theorem in4 {u : Int} (h0 : 0 ≤ u) (h1 : u < 4) : u ∈ ([0, 1, 2, 3] : List Int) := by
  have : u = 0 ∨ u = 1 ∨ u = 2 ∨ u = 3 := by omega
  simpa using this
theorem law_ok (ns : List Int) (h : ns.length ≤ 63) : (m_law ns).Out (fun r => r = true) (fun _ => False) := by
  unfold m_law
  refine foF (fun _ => True) trivial (fun _ x _ _ => ?_) fun _ _ => rfl
  generalize ((cutD ns (some x) (some (x + (1 : Int)))).sum) + ((7 : Int) * x) = S
  have hu0 : 0 ≤ S % 4 := Int.emod_nonneg _ (by decide)
  have hu1 : S % 4 < 4 := Int.emod_lt_of_pos _ (by decide)
  have hv0 : 0 ≤ S / 4 % 4 := Int.emod_nonneg _ (by decide)
  have hv1 : S / 4 % 4 < 4 := Int.emod_lt_of_pos _ (by decide)
  have hk0 : 0 ≤ S % 3 := Int.emod_nonneg _ (by decide)
  have hk1 : S % 3 < 3 := Int.emod_lt_of_pos _ (by decide)
  generalize S % 4 = u at hu0 hu1
  generalize S / 4 % 4 = v at hv0 hv1
  generalize S % 3 = k at hk0 hk1
  have hk : k = 0 ∨ k = 1 ∨ k = 2 := by omega
  have ex : pix ([(StepT.dig 4), (StepT.lean 2), StepT.full] : List StepT) (u % (3 : Int)) = .ok (X1 u) := by
    have : u = 0 ∨ u = 1 ∨ u = 2 ∨ u = 3 := by omega
    rcases this with rfl | rfl | rfl | rfl <;> rfl
  have ey : pix ([(StepT.dig 2), (StepT.lean 4), (StepT.keep 1)] : List StepT) (v % (3 : Int)) = .ok (Y1 v) := by
    have : v = 0 ∨ v = 1 ∨ v = 2 ∨ v = 3 := by omega
    rcases this with rfl | rfl | rfl | rfl <;> rfl
  have mk_ : ∀ n : Int, 1 ≤ n → m_Keep_make n = .ok n ∧ m_Lean_make n = .ok n ∧ m_Dig_make n = .ok n := fun n hn => by
    have : m_check_least n 1 = .ok () := by
      unfold m_check_least
      rw [show m_is_whole n = .ok true from rfl, bind_ok, cond_true, decide_eq_false (by omega)]; rfl
    unfold m_Keep_make m_Lean_make m_Dig_make
    rw [this]; exact ⟨rfl, rfl, rfl⟩
  have sc : ∀ xs : List StepT, xs.length ≤ 1000 → m_Script_make (some xs) = .ok xs := fun xs h => by
    show (m_are_steps xs).bind _ = _
    unfold m_are_steps
    rw [compR_none (by rw [sz]; omega) (fun _ _ => rfl)]
    show guard (true = true) xs = .ok xs
    exact guard_ok rfl
  refine bE (pslS_mk (by decide)) ?_
  refine bE (pslS_mk (by decide)) ?_
  refine bE (a := W1 k) (by rcases hk with rfl | rfl | rfl <;> exact pcat_mk (by decide +kernel)) ?_
  refine bE (mk_ 2 (by decide)).1 ?_
  refine bE (mk_ 4 (by decide)).2.2 ?_
  refine bE (mk_ 2 (by decide)).2.1 ?_
  refine bE ex ?_
  refine bE (sc _ (by simp)) ?_
  refine bE (mk_ 4 (by decide)).1 ?_
  refine bE (mk_ 2 (by decide)).2.2 ?_
  refine bE (mk_ 4 (by decide)).2.1 ?_
  refine bE (mk_ 1 (by decide)).1 ?_
  refine bE ey ?_
  refine bE (sc _ (by simp)) ?_
  have ef : m_law_files_right (W1 k) u v = .ok true := of_isT (by
    rcases hk with rfl | rfl | rfl
    · exact List.all_eq_true.mp (List.all_eq_true.mp files_all0 u (in4 hu0 hu1)) v (in4 hv0 hv1)
    · exact List.all_eq_true.mp (List.all_eq_true.mp files_all1 u (in4 hu0 hu1)) v (in4 hv0 hv1)
    · exact List.all_eq_true.mp (List.all_eq_true.mp files_all2 u (in4 hu0 hu1)) v (in4 hv0 hv1))
  rw [ef, bind_ok, cond_true, rest_ok (List.all_eq_true.mp (List.all_eq_true.mp rest_all u (in4 hu0 hu1)) v (in4 hv0 hv1)), bind_ok, cond_true]
  exact nxA trivial
end Kh

set_option Elab.async false
set_option linter.all false
set_option maxRecDepth 100000
set_option maxHeartbeats 4000000
namespace Kh
open PySem PySem.Spec L2
open PySem.W (Frag)
section
variable {w : World} {K : Frag} {mg : Str → Option Value} {base : Heap}
theorem ok_law (R : Prg K mg) : FnOk PR w K mg base CX0 14 R.f_law R.d_law P_law (toSp K spLaw) := by
  refine fn_law false R.F_law sc_law (fun h => nomatch h) (fun ds M P E ⟨a, _, q, _⟩ => by rw [q]; rfl) fun cdv A outer s H hr ds M Pd PE h => ?_
  obtain ⟨a_script, hlen, rfl, rfl, hp⟩ := h
  have hu := hr.units
  have h : (m_law a_script).Out (fun r => Pd (.bl r) []) (fun _ => False) := out_mono (law_ok a_script hlen) (fun r e => by rw [show r = true from e]; exact hp) (fun _ h => h)
  refine WS.ends ?_
  refine ws_forT <| ei_rng1 R.n_range <| ex_int <| ⟨(4 : Int), rfl, by decide, forT Dat.int (xs := (rangeL 0 (Int.toNat (4 : Int)))) (fun (s1 : Unit) τ M' => ∃ d1 d2 d3 d4 d5 d6 d7, [some (.scr a_script), d1, d2, d3, d4, d5, d6, d7] = τ ∧ [] = M') (ob h) ⟨_, _, _, _, _, _, _, rfl, rfl⟩ (fun _ _ _ _ => trivial) ?g29 ?g30⟩
  case g29 =>
    rintro x2 s1 _ _ N ⟨d1, d2, d3, d4, d5, d6, d7, rfl, rfl⟩ h hrt3
    refine gx_name  <| ?_
    refine ws_set <| ex_bin <| ex_callTy R.n_int PyProof.Rows.Boot.«int» <| ea_cons <| ex_callB R.n_sum PyProof.Rows.Boot.«sum» <| ea_cons <| ex_sl <| ex_var ⟨rfl, rfl⟩ <| ep_some <| ex_var ⟨rfl, rfl⟩ <| ⟨_, rfl, ep_some <| ex_bin <| ex_var ⟨rfl, rfl⟩ <| ex_int <| o_add <| ⟨_, rfl, l_scrT <| ea_nil <| c_sumT (ns := (cutD a_script (some x2) (some (x2 + (1 : Int))))) <| ea_nil <| c_int_i <| ex_bin <| ex_int <| ex_var ⟨rfl, rfl⟩ <| o_mulS (.inl (by decide)) <| o_add <| ?_⟩⟩
    refine ws_par <| ea_cons <| ex_bin <| ex_var ⟨rfl, rfl⟩ <| ex_int <| o_mod (by decide) <| ea_cons <| ex_bin <| ex_bin <| ex_var ⟨rfl, rfl⟩ <| ex_int <| o_div ⟨by decide, by decide⟩ <| ex_int <| o_mod (by decide) <| ea_nil ⟨_, _, rfl, ?_⟩
    refine ws_set <| ex_bin <| ex_sl <| ex_str <| ep_some <| ex_bin <| ex_var ⟨rfl, rfl⟩ <| ex_int <| o_mod (by decide) <| ⟨_, rfl, ep_none <| r_slS (ob h) fun z5 h => ex_sl <| ex_str <| ep_none <| ep_some <| ex_bin <| ex_var ⟨rfl, rfl⟩ <| ex_int <| o_mod (by decide) <| ⟨_, rfl, r_slS (ob h) fun z6 h => r_cat (ob h) fun z7 h => ?_⟩⟩
    refine ws_set <| ex_make R.K_Script (ok_Script_init R) (hr.mono (by decide)) R.mc_Script R.b_Script_init .nil (fun _ => .nil) <| ea_cons <| ex_lst <| ea_cons <| ex_make R.K_Keep (ok_Keep_init R) (hr.mono (by decide)) R.mc_Keep R.b_Keep_init .nil (fun _ => .nil) <| ea_cons <| ex_int <| ea_nil <| fun q dx _ _ _ => mk_Keep (ob h) (fun z8 h => ea_cons <| ex_ix <| ex_lst <| ea_cons <| ex_make R.K_Dig (ok_Dig_init R) (hr.mono (by decide)) R.mc_Dig R.b_Dig_init .nil (fun _ => .nil) <| ea_cons <| ex_int <| ea_nil <| fun q dx _ _ _ => mk_Dig (ob h) (fun z9 h => ea_cons <| ex_make R.K_Lean (ok_Lean_init R) (hr.mono (by decide)) R.mc_Lean R.b_Lean_init .nil (fun _ => .nil) <| ea_cons <| ex_int <| ea_nil <| fun q dx _ _ _ => mk_Lean (ob h) (fun z10 h => ea_cons <| ex_new0 R.K_Full R.mc_Full fun q dx _ _ _ => made_ok (fs := []) <| ea_nil ⟨ln, ex_bin <| ex_var ⟨rfl, rfl⟩ <| ex_int <| o_mod (by decide) <| r_ix (stepD R) (xs := ([(StepT.dig z9), (StepT.lean z10), StepT.full] : List StepT)) (ob h) fun z11 h => ea_nil ⟨ln, ea_nil <| fun q dx _ _ _ => mk_Script (ob h) (fun z12 h => ?_) (fun _ h => dX [_] h)⟩⟩) (fun _ h => dX [_] h)) (fun _ h => dX [_] h)) (fun _ h => dX [_] h)
    refine ws_set <| ex_make R.K_Script (ok_Script_init R) (hr.mono (by decide)) R.mc_Script R.b_Script_init .nil (fun _ => .nil) <| ea_cons <| ex_lst <| ea_cons <| ex_make R.K_Keep (ok_Keep_init R) (hr.mono (by decide)) R.mc_Keep R.b_Keep_init .nil (fun _ => .nil) <| ea_cons <| ex_int <| ea_nil <| fun q dx _ _ _ => mk_Keep (ob h) (fun z13 h => ea_cons <| ex_ix <| ex_lst <| ea_cons <| ex_make R.K_Dig (ok_Dig_init R) (hr.mono (by decide)) R.mc_Dig R.b_Dig_init .nil (fun _ => .nil) <| ea_cons <| ex_int <| ea_nil <| fun q dx _ _ _ => mk_Dig (ob h) (fun z14 h => ea_cons <| ex_make R.K_Lean (ok_Lean_init R) (hr.mono (by decide)) R.mc_Lean R.b_Lean_init .nil (fun _ => .nil) <| ea_cons <| ex_int <| ea_nil <| fun q dx _ _ _ => mk_Lean (ob h) (fun z15 h => ea_cons <| ex_make R.K_Keep (ok_Keep_init R) (hr.mono (by decide)) R.mc_Keep R.b_Keep_init .nil (fun _ => .nil) <| ea_cons <| ex_int <| ea_nil <| fun q dx _ _ _ => mk_Keep (ob h) (fun z16 h => ea_nil ⟨ln, ex_bin <| ex_var ⟨rfl, rfl⟩ <| ex_int <| o_mod (by decide) <| r_ix (stepD R) (xs := ([(StepT.dig z14), (StepT.lean z15), (StepT.keep z16)] : List StepT)) (ob h) fun z17 h => ea_nil ⟨ln, ea_nil <| fun q dx _ _ _ => mk_Script (ob h) (fun z18 h => ?_) (fun _ h => dX [_] h)⟩⟩) (fun _ h => dX [_] h)) (fun _ h => dX [_] h)) (fun _ h => dX [_] h)) (fun _ h => dX [_] h)
    refine ws_if <| et_w <| ew_or <| et_not <| et_val <| ex_callF (ok_law_files_right R) (hr.mono (by decide)) R.m_law_files_right R.F_law_files_right R.b_law_files_right <| ea_cons <| ex_var ⟨rfl, rfl⟩ <| ea_cons <| ex_var ⟨rfl, rfl⟩ <| ea_cons <| ex_var ⟨rfl, rfl⟩ <| ea_nil <| ⟨z7, ((((cutD a_script (some x2) (some (x2 + (1 : Int)))).sum) + ((7 : Int) * x2)) % (4 : Int)), (((((cutD a_script (some x2) (some (x2 + (1 : Int)))).sum) + ((7 : Int) * x2)) / (4 : Int)) % (4 : Int)), rfl, outU (ob h) (fun z19 h => ⟨_, rfl, cifN h (fun h => ew_or1 <| et_not <| et_val <| ex_callF (ok_law_rest_right R) (hr.mono (by decide)) R.m_law_rest_right R.F_law_rest_right R.b_law_rest_right <| ea_cons <| ex_var ⟨rfl, rfl⟩ <| ea_cons <| ex_var ⟨rfl, rfl⟩ <| ea_cons <| ex_var ⟨rfl, rfl⟩ <| ea_cons <| ex_var ⟨rfl, rfl⟩ <| ea_nil <| ⟨z12, z18, ((((cutD a_script (some x2) (some (x2 + (1 : Int)))).sum) + ((7 : Int) * x2)) % (4 : Int)), (((((cutD a_script (some x2) (some (x2 + (1 : Int)))).sum) + ((7 : Int) * x2)) / (4 : Int)) % (4 : Int)), rfl, outU (ob h) (fun z21 h => ⟨_, rfl, cifN h (fun h => ?g23) (fun h => ?g22)⟩) (fun _ h => dX [] h)⟩) (fun h => ⟨fun _ => ?g20, fun z => nomatch z⟩)⟩) (fun _ h => dX [] h)⟩
    case g20 =>
      exact ws_ret <| ex_bl <| (dN [] (hrt3 _ h))
    case g22 =>
      exact ws_ret <| ex_bl <| (dN [] (hrt3 _ h))
    case g23 =>
      refine ws_nil ?_
      exact ws_nil ⟨(), ⟨_, _, _, _, _, _, _, rfl, rfl⟩, h⟩
  case g30 =>
    rintro s1 _ _ ⟨d1, d2, d3, d4, d5, d6, d7, rfl, rfl⟩ h
    replace h := finO h
    exact ws_ret <| ex_bl <| (dN [] h)
end
end Kh

set_option Elab.async false
set_option linter.all false
set_option maxRecDepth 100000
set_option pp.maxSteps 60
set_option maxHeartbeats 2000000
namespace Kh
open PySem PySem.Spec L2
open PySem.W (Frag ksFn)
theorem all_mk {w : World} {K : Frag} {h : Heap} {mg : Str → Option Value} {fa : Addr} (X : K.In h) (G : h.Ns mainGlobals mg) (hfa : mg "law" = some (.ref fa))
    {tg_SIGNS : Tok} {C_File : Addr} {C_Step : Addr} {C_Full : Addr} {C_Keep : Addr} {C_Lean : Addr} {C_Dig : Addr} {C_Script : Addr} {f_is_whole : Addr} {od_is_whole : Option Addr} {an_is_whole : Option Addr} {sl_is_whole : Array (Option Value)} {oc_is_whole : Value} {kV_is_whole : Value} {dc_is_whole : Value} {pm_is_whole : Value} {cd_is_whole : Value} {ct_is_whole : Value} {f_check_least : Addr} {od_check_least : Option Addr} {an_check_least : Option Addr} {sl_check_least : Array (Option Value)} {oc_check_least : Value} {kV_check_least : Value} {dc_check_least : Value} {pm_check_least : Value} {cd_check_least : Value} {ct_check_least : Value} {f_check_within : Addr} {od_check_within : Option Addr} {an_check_within : Option Addr} {sl_check_within : Array (Option Value)} {oc_check_within : Value} {kV_check_within : Value} {dc_check_within : Value} {pm_check_within : Value} {cd_check_within : Value} {ct_check_within : Value} {f_divisor_of : Addr} {od_divisor_of : Option Addr} {an_divisor_of : Option Addr} {sl_divisor_of : Array (Option Value)} {oc_divisor_of : Value} {kV_divisor_of : Value} {dc_divisor_of : Value} {pm_divisor_of : Value} {cd_divisor_of : Value} {ct_divisor_of : Value} {f_multiple_of : Addr} {od_multiple_of : Option Addr} {an_multiple_of : Option Addr} {sl_multiple_of : Array (Option Value)} {oc_multiple_of : Value} {kV_multiple_of : Value} {dc_multiple_of : Value} {pm_multiple_of : Value} {cd_multiple_of : Value} {ct_multiple_of : Value} {f_are_sizes : Addr} {od_are_sizes : Option Addr} {an_are_sizes : Option Addr} {sl_are_sizes : Array (Option Value)} {oc_are_sizes : Value} {kV_are_sizes : Value} {dc_are_sizes : Value} {pm_are_sizes : Value} {cd_are_sizes : Value} {ct_are_sizes : Value} {f_widened : Addr} {od_widened : Option Addr} {an_widened : Option Addr} {sl_widened : Array (Option Value)} {oc_widened : Value} {kV_widened : Value} {dc_widened : Value} {pm_widened : Value} {cd_widened : Value} {ct_widened : Value} {f_spread : Addr} {od_spread : Option Addr} {an_spread : Option Addr} {sl_spread : Array (Option Value)} {oc_spread : Value} {kV_spread : Value} {dc_spread : Value} {pm_spread : Value} {cd_spread : Value} {ct_spread : Value} {f_rounds_spread : Addr} {od_rounds_spread : Option Addr} {an_rounds_spread : Option Addr} {sl_rounds_spread : Array (Option Value)} {oc_rounds_spread : Value} {kV_rounds_spread : Value} {dc_rounds_spread : Value} {pm_rounds_spread : Value} {cd_rounds_spread : Value} {ct_rounds_spread : Value} {f_settles : Addr} {od_settles : Option Addr} {an_settles : Option Addr} {sl_settles : Array (Option Value)} {oc_settles : Value} {kV_settles : Value} {dc_settles : Value} {pm_settles : Value} {cd_settles : Value} {ct_settles : Value} {f_are_cells : Addr} {od_are_cells : Option Addr} {an_are_cells : Option Addr} {sl_are_cells : Array (Option Value)} {oc_are_cells : Value} {kV_are_cells : Value} {dc_are_cells : Value} {pm_are_cells : Value} {cd_are_cells : Value} {ct_are_cells : Value} {f_punched_cell : Addr} {od_punched_cell : Option Addr} {an_punched_cell : Option Addr} {sl_punched_cell : Array (Option Value)} {oc_punched_cell : Value} {kV_punched_cell : Value} {dc_punched_cell : Value} {pm_punched_cell : Value} {cd_punched_cell : Value} {ct_punched_cell : Value} {f_check_file : Addr} {od_check_file : Option Addr} {an_check_file : Option Addr} {sl_check_file : Array (Option Value)} {oc_check_file : Value} {kV_check_file : Value} {dc_check_file : Value} {pm_check_file : Value} {cd_check_file : Value} {ct_check_file : Value} {f_blocks_of : Addr} {od_blocks_of : Option Addr} {an_blocks_of : Option Addr} {sl_blocks_of : Array (Option Value)} {oc_blocks_of : Value} {kV_blocks_of : Value} {dc_blocks_of : Value} {pm_blocks_of : Value} {cd_blocks_of : Value} {ct_blocks_of : Value} {f_filled : Addr} {od_filled : Option Addr} {an_filled : Option Addr} {sl_filled : Array (Option Value)} {oc_filled : Value} {kV_filled : Value} {dc_filled : Value} {pm_filled : Value} {cd_filled : Value} {ct_filled : Value} {f_has_sign : Addr} {od_has_sign : Option Addr} {an_has_sign : Option Addr} {sl_has_sign : Array (Option Value)} {oc_has_sign : Value} {kV_has_sign : Value} {dc_has_sign : Value} {pm_has_sign : Value} {cd_has_sign : Value} {ct_has_sign : Value} {f_are_steps : Addr} {od_are_steps : Option Addr} {an_are_steps : Option Addr} {sl_are_steps : Array (Option Value)} {oc_are_steps : Value} {kV_are_steps : Value} {dc_are_steps : Value} {pm_are_steps : Value} {cd_are_steps : Value} {ct_are_steps : Value} {f_check_script : Addr} {od_check_script : Option Addr} {an_check_script : Option Addr} {sl_check_script : Array (Option Value)} {oc_check_script : Value} {kV_check_script : Value} {dc_check_script : Value} {pm_check_script : Value} {cd_check_script : Value} {ct_check_script : Value} {f_holds_in : Addr} {od_holds_in : Option Addr} {an_holds_in : Option Addr} {sl_holds_in : Array (Option Value)} {oc_holds_in : Value} {kV_holds_in : Value} {dc_holds_in : Value} {pm_holds_in : Value} {cd_holds_in : Value} {ct_holds_in : Value} {f_is_held : Addr} {od_is_held : Option Addr} {an_is_held : Option Addr} {sl_is_held : Array (Option Value)} {oc_is_held : Value} {kV_is_held : Value} {dc_is_held : Value} {pm_is_held : Value} {cd_is_held : Value} {ct_is_held : Value} {f_least_of : Addr} {od_least_of : Option Addr} {an_least_of : Option Addr} {sl_least_of : Array (Option Value)} {oc_least_of : Value} {kV_least_of : Value} {dc_least_of : Value} {pm_least_of : Value} {cd_least_of : Value} {ct_least_of : Value} {f_dug : Addr} {od_dug : Option Addr} {an_dug : Option Addr} {sl_dug : Array (Option Value)} {oc_dug : Value} {kV_dug : Value} {dc_dug : Value} {pm_dug : Value} {cd_dug : Value} {ct_dug : Value} {f_behind_step : Addr} {od_behind_step : Option Addr} {an_behind_step : Option Addr} {sl_behind_step : Array (Option Value)} {oc_behind_step : Value} {kV_behind_step : Value} {dc_behind_step : Value} {pm_behind_step : Value} {cd_behind_step : Value} {ct_behind_step : Value} {f_reason_table : Addr} {od_reason_table : Option Addr} {an_reason_table : Option Addr} {sl_reason_table : Array (Option Value)} {oc_reason_table : Value} {kV_reason_table : Value} {dc_reason_table : Value} {pm_reason_table : Value} {cd_reason_table : Value} {ct_reason_table : Value} {f_cells_of : Addr} {od_cells_of : Option Addr} {an_cells_of : Option Addr} {sl_cells_of : Array (Option Value)} {oc_cells_of : Value} {kV_cells_of : Value} {dc_cells_of : Value} {pm_cells_of : Value} {cd_cells_of : Value} {ct_cells_of : Value} {f_reasons : Addr} {od_reasons : Option Addr} {an_reasons : Option Addr} {sl_reasons : Array (Option Value)} {oc_reasons : Value} {kV_reasons : Value} {dc_reasons : Value} {pm_reasons : Value} {cd_reasons : Value} {ct_reasons : Value} {f_moved_table : Addr} {od_moved_table : Option Addr} {an_moved_table : Option Addr} {sl_moved_table : Array (Option Value)} {oc_moved_table : Value} {kV_moved_table : Value} {dc_moved_table : Value} {pm_moved_table : Value} {cd_moved_table : Value} {ct_moved_table : Value} {f_put_down : Addr} {od_put_down : Option Addr} {an_put_down : Option Addr} {sl_put_down : Array (Option Value)} {oc_put_down : Value} {kV_put_down : Value} {dc_put_down : Value} {pm_put_down : Value} {cd_put_down : Value} {ct_put_down : Value} {f_more_of : Addr} {od_more_of : Option Addr} {an_more_of : Option Addr} {sl_more_of : Array (Option Value)} {oc_more_of : Value} {kV_more_of : Value} {dc_more_of : Value} {pm_more_of : Value} {cd_more_of : Value} {ct_more_of : Value} {f_check_two : Addr} {od_check_two : Option Addr} {an_check_two : Option Addr} {sl_check_two : Array (Option Value)} {oc_check_two : Value} {kV_check_two : Value} {dc_check_two : Value} {pm_check_two : Value} {cd_check_two : Value} {ct_check_two : Value} {f_more_file : Addr} {od_more_file : Option Addr} {an_more_file : Option Addr} {sl_more_file : Array (Option Value)} {oc_more_file : Value} {kV_more_file : Value} {dc_more_file : Value} {pm_more_file : Value} {cd_more_file : Value} {ct_more_file : Value} {f_never_more : Addr} {od_never_more : Option Addr} {an_never_more : Option Addr} {sl_never_more : Array (Option Value)} {oc_never_more : Value} {kV_never_more : Value} {dc_never_more : Value} {pm_never_more : Value} {cd_never_more : Value} {ct_never_more : Value} {f_parting_of : Addr} {od_parting_of : Option Addr} {an_parting_of : Option Addr} {sl_parting_of : Array (Option Value)} {oc_parting_of : Value} {kV_parting_of : Value} {dc_parting_of : Value} {pm_parting_of : Value} {cd_parting_of : Value} {ct_parting_of : Value} {f_parting : Addr} {od_parting : Option Addr} {an_parting : Option Addr} {sl_parting : Array (Option Value)} {oc_parting : Value} {kV_parting : Value} {dc_parting : Value} {pm_parting : Value} {cd_parting : Value} {ct_parting : Value} {f_alike : Addr} {od_alike : Option Addr} {an_alike : Option Addr} {sl_alike : Array (Option Value)} {oc_alike : Value} {kV_alike : Value} {dc_alike : Value} {pm_alike : Value} {cd_alike : Value} {ct_alike : Value} {f_exchangeable : Addr} {od_exchangeable : Option Addr} {an_exchangeable : Option Addr} {sl_exchangeable : Array (Option Value)} {oc_exchangeable : Value} {kV_exchangeable : Value} {dc_exchangeable : Value} {pm_exchangeable : Value} {cd_exchangeable : Value} {ct_exchangeable : Value} {f_law_files_right : Addr} {od_law_files_right : Option Addr} {an_law_files_right : Option Addr} {sl_law_files_right : Array (Option Value)} {oc_law_files_right : Value} {kV_law_files_right : Value} {dc_law_files_right : Value} {pm_law_files_right : Value} {cd_law_files_right : Value} {ct_law_files_right : Value} {f_law_rest_right : Addr} {od_law_rest_right : Option Addr} {an_law_rest_right : Option Addr} {sl_law_rest_right : Array (Option Value)} {oc_law_rest_right : Value} {kV_law_rest_right : Value} {dc_law_rest_right : Value} {pm_law_rest_right : Value} {cd_law_rest_right : Value} {ct_law_rest_right : Value} {f_law : Addr} {od_law : Option Addr} {an_law : Option Addr} {sl_law : Array (Option Value)} {oc_law : Value} {kV_law : Value} {dc_law : Value} {pm_law : Value} {cd_law : Value} {ct_law : Value} {f_File_init : Addr} {od_File_init : Option Addr} {an_File_init : Option Addr} {sl_File_init : Array (Option Value)} {oc_File_init : Value} {kV_File_init : Value} {dc_File_init : Value} {pm_File_init : Value} {cd_File_init : Value} {ct_File_init : Value} {T_File_init : Addr} {ocT_File_init : Value} {odT_File_init : Option Addr} {nT_File_init : Nat} {slT_File_init : Array (Option Value)} {tk0_File_init : Tok} {f_File_cells : Addr} {od_File_cells : Option Addr} {an_File_cells : Option Addr} {sl_File_cells : Array (Option Value)} {oc_File_cells : Value} {kV_File_cells : Value} {dc_File_cells : Value} {pm_File_cells : Value} {cd_File_cells : Value} {ct_File_cells : Value} {pr_File_cells : Addr} {rs_File_cells : List Value} {f_File_eq : Addr} {od_File_eq : Option Addr} {an_File_eq : Option Addr} {sl_File_eq : Array (Option Value)} {oc_File_eq : Value} {kV_File_eq : Value} {dc_File_eq : Value} {pm_File_eq : Value} {cd_File_eq : Value} {ct_File_eq : Value} {f_File_cut : Addr} {od_File_cut : Option Addr} {an_File_cut : Option Addr} {sl_File_cut : Array (Option Value)} {oc_File_cut : Value} {kV_File_cut : Value} {dc_File_cut : Value} {pm_File_cut : Value} {cd_File_cut : Value} {ct_File_cut : Value} {f_File_grown : Addr} {od_File_grown : Option Addr} {an_File_grown : Option Addr} {sl_File_grown : Array (Option Value)} {oc_File_grown : Value} {kV_File_grown : Value} {dc_File_grown : Value} {pm_File_grown : Value} {cd_File_grown : Value} {ct_File_grown : Value} {f_File_punched : Addr} {od_File_punched : Option Addr} {an_File_punched : Option Addr} {sl_File_punched : Array (Option Value)} {oc_File_punched : Value} {kV_File_punched : Value} {dc_File_punched : Value} {pm_File_punched : Value} {cd_File_punched : Value} {ct_File_punched : Value} {f_Step_play : Addr} {od_Step_play : Option Addr} {an_Step_play : Option Addr} {sl_Step_play : Array (Option Value)} {oc_Step_play : Value} {kV_Step_play : Value} {dc_Step_play : Value} {pm_Step_play : Value} {cd_Step_play : Value} {ct_Step_play : Value} {f_Full_changed : Addr} {od_Full_changed : Option Addr} {an_Full_changed : Option Addr} {sl_Full_changed : Array (Option Value)} {oc_Full_changed : Value} {kV_Full_changed : Value} {dc_Full_changed : Value} {pm_Full_changed : Value} {cd_Full_changed : Value} {ct_Full_changed : Value} {f_Full_eq : Addr} {od_Full_eq : Option Addr} {an_Full_eq : Option Addr} {sl_Full_eq : Array (Option Value)} {oc_Full_eq : Value} {kV_Full_eq : Value} {dc_Full_eq : Value} {pm_Full_eq : Value} {cd_Full_eq : Value} {ct_Full_eq : Value} {f_Keep_init : Addr} {od_Keep_init : Option Addr} {an_Keep_init : Option Addr} {sl_Keep_init : Array (Option Value)} {oc_Keep_init : Value} {kV_Keep_init : Value} {dc_Keep_init : Value} {pm_Keep_init : Value} {cd_Keep_init : Value} {ct_Keep_init : Value} {f_Keep_size : Addr} {od_Keep_size : Option Addr} {an_Keep_size : Option Addr} {sl_Keep_size : Array (Option Value)} {oc_Keep_size : Value} {kV_Keep_size : Value} {dc_Keep_size : Value} {pm_Keep_size : Value} {cd_Keep_size : Value} {ct_Keep_size : Value} {pr_Keep_size : Addr} {rs_Keep_size : List Value} {f_Keep_changed : Addr} {od_Keep_changed : Option Addr} {an_Keep_changed : Option Addr} {sl_Keep_changed : Array (Option Value)} {oc_Keep_changed : Value} {kV_Keep_changed : Value} {dc_Keep_changed : Value} {pm_Keep_changed : Value} {cd_Keep_changed : Value} {ct_Keep_changed : Value} {f_Keep_eq : Addr} {od_Keep_eq : Option Addr} {an_Keep_eq : Option Addr} {sl_Keep_eq : Array (Option Value)} {oc_Keep_eq : Value} {kV_Keep_eq : Value} {dc_Keep_eq : Value} {pm_Keep_eq : Value} {cd_Keep_eq : Value} {ct_Keep_eq : Value} {f_Lean_init : Addr} {od_Lean_init : Option Addr} {an_Lean_init : Option Addr} {sl_Lean_init : Array (Option Value)} {oc_Lean_init : Value} {kV_Lean_init : Value} {dc_Lean_init : Value} {pm_Lean_init : Value} {cd_Lean_init : Value} {ct_Lean_init : Value} {f_Lean_size : Addr} {od_Lean_size : Option Addr} {an_Lean_size : Option Addr} {sl_Lean_size : Array (Option Value)} {oc_Lean_size : Value} {kV_Lean_size : Value} {dc_Lean_size : Value} {pm_Lean_size : Value} {cd_Lean_size : Value} {ct_Lean_size : Value} {pr_Lean_size : Addr} {rs_Lean_size : List Value} {f_Lean_changed : Addr} {od_Lean_changed : Option Addr} {an_Lean_changed : Option Addr} {sl_Lean_changed : Array (Option Value)} {oc_Lean_changed : Value} {kV_Lean_changed : Value} {dc_Lean_changed : Value} {pm_Lean_changed : Value} {cd_Lean_changed : Value} {ct_Lean_changed : Value} {f_Lean_eq : Addr} {od_Lean_eq : Option Addr} {an_Lean_eq : Option Addr} {sl_Lean_eq : Array (Option Value)} {oc_Lean_eq : Value} {kV_Lean_eq : Value} {dc_Lean_eq : Value} {pm_Lean_eq : Value} {cd_Lean_eq : Value} {ct_Lean_eq : Value} {f_Dig_init : Addr} {od_Dig_init : Option Addr} {an_Dig_init : Option Addr} {sl_Dig_init : Array (Option Value)} {oc_Dig_init : Value} {kV_Dig_init : Value} {dc_Dig_init : Value} {pm_Dig_init : Value} {cd_Dig_init : Value} {ct_Dig_init : Value} {f_Dig_size : Addr} {od_Dig_size : Option Addr} {an_Dig_size : Option Addr} {sl_Dig_size : Array (Option Value)} {oc_Dig_size : Value} {kV_Dig_size : Value} {dc_Dig_size : Value} {pm_Dig_size : Value} {cd_Dig_size : Value} {ct_Dig_size : Value} {pr_Dig_size : Addr} {rs_Dig_size : List Value} {f_Dig_changed : Addr} {od_Dig_changed : Option Addr} {an_Dig_changed : Option Addr} {sl_Dig_changed : Array (Option Value)} {oc_Dig_changed : Value} {kV_Dig_changed : Value} {dc_Dig_changed : Value} {pm_Dig_changed : Value} {cd_Dig_changed : Value} {ct_Dig_changed : Value} {f_Dig_eq : Addr} {od_Dig_eq : Option Addr} {an_Dig_eq : Option Addr} {sl_Dig_eq : Array (Option Value)} {oc_Dig_eq : Value} {kV_Dig_eq : Value} {dc_Dig_eq : Value} {pm_Dig_eq : Value} {cd_Dig_eq : Value} {ct_Dig_eq : Value} {f_Script_init : Addr} {od_Script_init : Option Addr} {an_Script_init : Option Addr} {sl_Script_init : Array (Option Value)} {oc_Script_init : Value} {kV_Script_init : Value} {dc_Script_init : Value} {pm_Script_init : Value} {cd_Script_init : Value} {ct_Script_init : Value} {T_Script_init : Addr} {ocT_Script_init : Value} {odT_Script_init : Option Addr} {nT_Script_init : Nat} {slT_Script_init : Array (Option Value)} {f_Script_period : Addr} {od_Script_period : Option Addr} {an_Script_period : Option Addr} {sl_Script_period : Array (Option Value)} {oc_Script_period : Value} {kV_Script_period : Value} {dc_Script_period : Value} {pm_Script_period : Value} {cd_Script_period : Value} {ct_Script_period : Value} {pr_Script_period : Addr} {rs_Script_period : List Value} {f_Script_iter : Addr} {od_Script_iter : Option Addr} {an_Script_iter : Option Addr} {sl_Script_iter : Array (Option Value)} {oc_Script_iter : Value} {kV_Script_iter : Value} {dc_Script_iter : Value} {pm_Script_iter : Value} {cd_Script_iter : Value} {ct_Script_iter : Value} {f_Script_eq : Addr} {od_Script_eq : Option Addr} {an_Script_eq : Option Addr} {sl_Script_eq : Array (Option Value)} {oc_Script_eq : Value} {kV_Script_eq : Value} {dc_Script_eq : Value} {pm_Script_eq : Value} {cd_Script_eq : Value} {ct_Script_eq : Value} {f_Script_add : Addr} {od_Script_add : Option Addr} {an_Script_add : Option Addr} {sl_Script_add : Array (Option Value)} {oc_Script_add : Value} {kV_Script_add : Value} {dc_Script_add : Value} {pm_Script_add : Value} {cd_Script_add : Value} {ct_Script_add : Value} {f_Script_without : Addr} {od_Script_without : Option Addr} {an_Script_without : Option Addr} {sl_Script_without : Array (Option Value)} {oc_Script_without : Value} {kV_Script_without : Value} {dc_Script_without : Value} {pm_Script_without : Value} {cd_Script_without : Value} {ct_Script_without : Value} {f_Script_traces : Addr} {od_Script_traces : Option Addr} {an_Script_traces : Option Addr} {sl_Script_traces : Array (Option Value)} {oc_Script_traces : Value} {kV_Script_traces : Value} {dc_Script_traces : Value} {pm_Script_traces : Value} {cd_Script_traces : Value} {ct_Script_traces : Value} {f_Script_play : Addr} {od_Script_play : Option Addr} {an_Script_play : Option Addr} {sl_Script_play : Array (Option Value)} {oc_Script_play : Value} {kV_Script_play : Value} {dc_Script_play : Value} {pm_Script_play : Value} {cd_Script_play : Value} {ct_Script_play : Value} {C_InvalidFile : Addr} {C_HoleError : Addr} {nm_InvalidFile : Str} {q_InvalidFile : Str} {NN_InvalidFile : Addr} {I_InvalidFile : Addr} {cda_InvalidFile : Addr} {cc_InvalidFile : Addr} {bs_InvalidFile : List Value} {sn_InvalidFile : List Str} {sub_InvalidFile : List Value} {ab_InvalidFile : Bool} {col_InvalidFile : Option Bool} {dd_InvalidFile : Option Addr} {m0_InvalidFile : Option Value} {m1_InvalidFile : Option Value} {m2_InvalidFile : Option Value} {m3_InvalidFile : Option Value} {m5_InvalidFile : Option Value} {od_InvalidFile : Option Addr} {an_InvalidFile : Option Addr} {cdd_InvalidFile : Option Addr} {cld_InvalidFile : Option Addr} {sl_InvalidFile : Array (Option Value)} {ccs_InvalidFile : Array (Option Value)} {csl_InvalidFile : Array (Option Value)} {oc_InvalidFile : Value} {ocT_InvalidFile : Value} {kV_InvalidFile : Value} {dc_InvalidFile : Value} {pm_InvalidFile : Value} {ct_InvalidFile : Value} {ccl_InvalidFile : Value} {cl_InvalidFile : Value} {T_InvalidFile : Addr} {odT_InvalidFile : Option Addr} {nT_InvalidFile : Nat} {slT_InvalidFile : Array (Option Value)} {vs_InvalidFile : Array Value} {file_InvalidFile : Str} {tf_InvalidFile : Tok} {C_InvalidNumber : Addr} {nm_InvalidNumber : Str} {q_InvalidNumber : Str} {NN_InvalidNumber : Addr} {I_InvalidNumber : Addr} {cda_InvalidNumber : Addr} {cc_InvalidNumber : Addr} {bs_InvalidNumber : List Value} {sn_InvalidNumber : List Str} {sub_InvalidNumber : List Value} {ab_InvalidNumber : Bool} {col_InvalidNumber : Option Bool} {dd_InvalidNumber : Option Addr} {m0_InvalidNumber : Option Value} {m1_InvalidNumber : Option Value} {m2_InvalidNumber : Option Value} {m3_InvalidNumber : Option Value} {m5_InvalidNumber : Option Value} {od_InvalidNumber : Option Addr} {an_InvalidNumber : Option Addr} {cdd_InvalidNumber : Option Addr} {cld_InvalidNumber : Option Addr} {sl_InvalidNumber : Array (Option Value)} {ccs_InvalidNumber : Array (Option Value)} {csl_InvalidNumber : Array (Option Value)} {oc_InvalidNumber : Value} {ocT_InvalidNumber : Value} {kV_InvalidNumber : Value} {dc_InvalidNumber : Value} {pm_InvalidNumber : Value} {ct_InvalidNumber : Value} {ccl_InvalidNumber : Value} {cl_InvalidNumber : Value} {T_InvalidNumber : Addr} {odT_InvalidNumber : Option Addr} {nT_InvalidNumber : Nat} {slT_InvalidNumber : Array (Option Value)} {vs_InvalidNumber : Array Value} {file_InvalidNumber : Str} {tf_InvalidNumber : Tok} {C_InvalidScript : Addr} {C_InvalidList : Addr} {nm_InvalidList : Str} {q_InvalidList : Str} {NN_InvalidList : Addr} {I_InvalidList : Addr} {cda_InvalidList : Addr} {cc_InvalidList : Addr} {bs_InvalidList : List Value} {sn_InvalidList : List Str} {sub_InvalidList : List Value} {ab_InvalidList : Bool} {col_InvalidList : Option Bool} {dd_InvalidList : Option Addr} {m0_InvalidList : Option Value} {m1_InvalidList : Option Value} {m2_InvalidList : Option Value} {m3_InvalidList : Option Value} {m5_InvalidList : Option Value} {od_InvalidList : Option Addr} {an_InvalidList : Option Addr} {cdd_InvalidList : Option Addr} {cld_InvalidList : Option Addr} {sl_InvalidList : Array (Option Value)} {ccs_InvalidList : Array (Option Value)} {csl_InvalidList : Array (Option Value)} {oc_InvalidList : Value} {ocT_InvalidList : Value} {kV_InvalidList : Value} {dc_InvalidList : Value} {pm_InvalidList : Value} {ct_InvalidList : Value} {ccl_InvalidList : Value} {cl_InvalidList : Value} {T_InvalidList : Addr} {odT_InvalidList : Option Addr} {nT_InvalidList : Nat} {slT_InvalidList : Array (Option Value)} {vs_InvalidList : Array Value} {file_InvalidList : Str} {tf_InvalidList : Tok}
    (z_bool : PySem.W.nsIn K mainGlobals "bool" = some none)
    (z_enumerate : PySem.W.nsIn K mainGlobals "enumerate" = some none)
    (z_int : PySem.W.nsIn K mainGlobals "int" = some none)
    (z_isinstance : PySem.W.nsIn K mainGlobals "isinstance" = some none)
    (z_iter : PySem.W.nsIn K mainGlobals "iter" = some none)
    (z_len : PySem.W.nsIn K mainGlobals "len" = some none)
    (z_list : PySem.W.nsIn K mainGlobals "list" = some none)
    (z_max : PySem.W.nsIn K mainGlobals "max" = some none)
    (z_min : PySem.W.nsIn K mainGlobals "min" = some none)
    (z_range : PySem.W.nsIn K mainGlobals "range" = some none)
    (z_set : PySem.W.nsIn K mainGlobals "set" = some none)
    (z_sorted : PySem.W.nsIn K mainGlobals "sorted" = some none)
    (z_str : PySem.W.nsIn K mainGlobals "str" = some none)
    (z_sum : PySem.W.nsIn K mainGlobals "sum" = some none)
    (z_super : PySem.W.nsIn K mainGlobals "super" = some none)
    (z_tuple : PySem.W.nsIn K mainGlobals "tuple" = some none)
    (g_SIGNS : PySem.W.nsIn K mainGlobals "SIGNS" = some (some (.str "abcdefghijklmnopqrstuvwxyz" tg_SIGNS)))
    (ac_File : PySem.W.nsIn K mainGlobals "File" = some (some (.ref C_File)))
    (ac_Step : PySem.W.nsIn K mainGlobals "Step" = some (some (.ref C_Step)))
    (ac_Full : PySem.W.nsIn K mainGlobals "Full" = some (some (.ref C_Full)))
    (ac_Keep : PySem.W.nsIn K mainGlobals "Keep" = some (some (.ref C_Keep)))
    (ac_Lean : PySem.W.nsIn K mainGlobals "Lean" = some (some (.ref C_Lean)))
    (ac_Dig : PySem.W.nsIn K mainGlobals "Dig" = some (some (.ref C_Dig)))
    (ac_Script : PySem.W.nsIn K mainGlobals "Script" = some (some (.ref C_Script)))
    (a_is_whole : PySem.W.nsIn K mainGlobals "is_whole" = some (some (.ref f_is_whole)))
    (l_is_whole : K.lookup f_is_whole = some ⟨oc_is_whole, od_is_whole, .func (PySem.W.fnOf "is_whole" "is_whole" (defArgs s_is_whole) (defBody s_is_whole) (defScope s_is_whole) .none kV_is_whole dc_is_whole pm_is_whole an_is_whole cd_is_whole ct_is_whole), sl_is_whole⟩)
    (c_is_whole : PySem.W.codeIn K cd_is_whole "is_whole" = true)
    (k_is_whole : PySem.W.keepIn K (.ref f_is_whole) = true)
    (a_check_least : PySem.W.nsIn K mainGlobals "check_least" = some (some (.ref f_check_least)))
    (l_check_least : K.lookup f_check_least = some ⟨oc_check_least, od_check_least, .func (PySem.W.fnOf "check_least" "check_least" (defArgs s_check_least) (defBody s_check_least) (defScope s_check_least) .none kV_check_least dc_check_least pm_check_least an_check_least cd_check_least ct_check_least), sl_check_least⟩)
    (c_check_least : PySem.W.codeIn K cd_check_least "check_least" = true)
    (k_check_least : PySem.W.keepIn K (.ref f_check_least) = true)
    (a_check_within : PySem.W.nsIn K mainGlobals "check_within" = some (some (.ref f_check_within)))
    (l_check_within : K.lookup f_check_within = some ⟨oc_check_within, od_check_within, .func (PySem.W.fnOf "check_within" "check_within" (defArgs s_check_within) (defBody s_check_within) (defScope s_check_within) .none kV_check_within dc_check_within pm_check_within an_check_within cd_check_within ct_check_within), sl_check_within⟩)
    (c_check_within : PySem.W.codeIn K cd_check_within "check_within" = true)
    (k_check_within : PySem.W.keepIn K (.ref f_check_within) = true)
    (a_divisor_of : PySem.W.nsIn K mainGlobals "divisor_of" = some (some (.ref f_divisor_of)))
    (l_divisor_of : K.lookup f_divisor_of = some ⟨oc_divisor_of, od_divisor_of, .func (PySem.W.fnOf "divisor_of" "divisor_of" (defArgs s_divisor_of) (defBody s_divisor_of) (defScope s_divisor_of) .none kV_divisor_of dc_divisor_of pm_divisor_of an_divisor_of cd_divisor_of ct_divisor_of), sl_divisor_of⟩)
    (c_divisor_of : PySem.W.codeIn K cd_divisor_of "divisor_of" = true)
    (k_divisor_of : PySem.W.keepIn K (.ref f_divisor_of) = true)
    (a_multiple_of : PySem.W.nsIn K mainGlobals "multiple_of" = some (some (.ref f_multiple_of)))
    (l_multiple_of : K.lookup f_multiple_of = some ⟨oc_multiple_of, od_multiple_of, .func (PySem.W.fnOf "multiple_of" "multiple_of" (defArgs s_multiple_of) (defBody s_multiple_of) (defScope s_multiple_of) .none kV_multiple_of dc_multiple_of pm_multiple_of an_multiple_of cd_multiple_of ct_multiple_of), sl_multiple_of⟩)
    (c_multiple_of : PySem.W.codeIn K cd_multiple_of "multiple_of" = true)
    (k_multiple_of : PySem.W.keepIn K (.ref f_multiple_of) = true)
    (a_are_sizes : PySem.W.nsIn K mainGlobals "are_sizes" = some (some (.ref f_are_sizes)))
    (l_are_sizes : K.lookup f_are_sizes = some ⟨oc_are_sizes, od_are_sizes, .func (PySem.W.fnOf "are_sizes" "are_sizes" (defArgs s_are_sizes) (defBody s_are_sizes) (defScope s_are_sizes) .none kV_are_sizes dc_are_sizes pm_are_sizes an_are_sizes cd_are_sizes ct_are_sizes), sl_are_sizes⟩)
    (c_are_sizes : PySem.W.codeIn K cd_are_sizes "are_sizes" = true)
    (k_are_sizes : PySem.W.keepIn K (.ref f_are_sizes) = true)
    (a_widened : PySem.W.nsIn K mainGlobals "widened" = some (some (.ref f_widened)))
    (l_widened : K.lookup f_widened = some ⟨oc_widened, od_widened, .func (PySem.W.fnOf "widened" "widened" (defArgs s_widened) (defBody s_widened) (defScope s_widened) .none kV_widened dc_widened pm_widened an_widened cd_widened ct_widened), sl_widened⟩)
    (c_widened : PySem.W.codeIn K cd_widened "widened" = true)
    (k_widened : PySem.W.keepIn K (.ref f_widened) = true)
    (a_spread : PySem.W.nsIn K mainGlobals "spread" = some (some (.ref f_spread)))
    (l_spread : K.lookup f_spread = some ⟨oc_spread, od_spread, .func (PySem.W.fnOf "spread" "spread" (defArgs s_spread) (defBody s_spread) (defScope s_spread) .none kV_spread dc_spread pm_spread an_spread cd_spread ct_spread), sl_spread⟩)
    (c_spread : PySem.W.codeIn K cd_spread "spread" = true)
    (k_spread : PySem.W.keepIn K (.ref f_spread) = true)
    (a_rounds_spread : PySem.W.nsIn K mainGlobals "rounds_spread" = some (some (.ref f_rounds_spread)))
    (l_rounds_spread : K.lookup f_rounds_spread = some ⟨oc_rounds_spread, od_rounds_spread, .func (PySem.W.fnOf "rounds_spread" "rounds_spread" (defArgs s_rounds_spread) (defBody s_rounds_spread) (defScope s_rounds_spread) .none kV_rounds_spread dc_rounds_spread pm_rounds_spread an_rounds_spread cd_rounds_spread ct_rounds_spread), sl_rounds_spread⟩)
    (c_rounds_spread : PySem.W.codeIn K cd_rounds_spread "rounds_spread" = true)
    (k_rounds_spread : PySem.W.keepIn K (.ref f_rounds_spread) = true)
    (a_settles : PySem.W.nsIn K mainGlobals "settles" = some (some (.ref f_settles)))
    (l_settles : K.lookup f_settles = some ⟨oc_settles, od_settles, .func (PySem.W.fnOf "settles" "settles" (defArgs s_settles) (defBody s_settles) (defScope s_settles) .none kV_settles dc_settles pm_settles an_settles cd_settles ct_settles), sl_settles⟩)
    (c_settles : PySem.W.codeIn K cd_settles "settles" = true)
    (k_settles : PySem.W.keepIn K (.ref f_settles) = true)
    (a_are_cells : PySem.W.nsIn K mainGlobals "are_cells" = some (some (.ref f_are_cells)))
    (l_are_cells : K.lookup f_are_cells = some ⟨oc_are_cells, od_are_cells, .func (PySem.W.fnOf "are_cells" "are_cells" (defArgs s_are_cells) (defBody s_are_cells) (defScope s_are_cells) .none kV_are_cells dc_are_cells pm_are_cells an_are_cells cd_are_cells ct_are_cells), sl_are_cells⟩)
    (c_are_cells : PySem.W.codeIn K cd_are_cells "are_cells" = true)
    (k_are_cells : PySem.W.keepIn K (.ref f_are_cells) = true)
    (a_punched_cell : PySem.W.nsIn K mainGlobals "punched_cell" = some (some (.ref f_punched_cell)))
    (l_punched_cell : K.lookup f_punched_cell = some ⟨oc_punched_cell, od_punched_cell, .func (PySem.W.fnOf "punched_cell" "punched_cell" (defArgs s_punched_cell) (defBody s_punched_cell) (defScope s_punched_cell) .none kV_punched_cell dc_punched_cell pm_punched_cell an_punched_cell cd_punched_cell ct_punched_cell), sl_punched_cell⟩)
    (c_punched_cell : PySem.W.codeIn K cd_punched_cell "punched_cell" = true)
    (k_punched_cell : PySem.W.keepIn K (.ref f_punched_cell) = true)
    (a_check_file : PySem.W.nsIn K mainGlobals "check_file" = some (some (.ref f_check_file)))
    (l_check_file : K.lookup f_check_file = some ⟨oc_check_file, od_check_file, .func (PySem.W.fnOf "check_file" "check_file" (defArgs s_check_file) (defBody s_check_file) (defScope s_check_file) .none kV_check_file dc_check_file pm_check_file an_check_file cd_check_file ct_check_file), sl_check_file⟩)
    (c_check_file : PySem.W.codeIn K cd_check_file "check_file" = true)
    (k_check_file : PySem.W.keepIn K (.ref f_check_file) = true)
    (a_blocks_of : PySem.W.nsIn K mainGlobals "blocks_of" = some (some (.ref f_blocks_of)))
    (l_blocks_of : K.lookup f_blocks_of = some ⟨oc_blocks_of, od_blocks_of, .func (PySem.W.fnOf "blocks_of" "blocks_of" (defArgs s_blocks_of) (defBody s_blocks_of) (defScope s_blocks_of) .none kV_blocks_of dc_blocks_of pm_blocks_of an_blocks_of cd_blocks_of ct_blocks_of), sl_blocks_of⟩)
    (c_blocks_of : PySem.W.codeIn K cd_blocks_of "blocks_of" = true)
    (k_blocks_of : PySem.W.keepIn K (.ref f_blocks_of) = true)
    (a_filled : PySem.W.nsIn K mainGlobals "filled" = some (some (.ref f_filled)))
    (l_filled : K.lookup f_filled = some ⟨oc_filled, od_filled, .func (PySem.W.fnOf "filled" "filled" (defArgs s_filled) (defBody s_filled) (defScope s_filled) .none kV_filled dc_filled pm_filled an_filled cd_filled ct_filled), sl_filled⟩)
    (c_filled : PySem.W.codeIn K cd_filled "filled" = true)
    (k_filled : PySem.W.keepIn K (.ref f_filled) = true)
    (a_has_sign : PySem.W.nsIn K mainGlobals "has_sign" = some (some (.ref f_has_sign)))
    (l_has_sign : K.lookup f_has_sign = some ⟨oc_has_sign, od_has_sign, .func (PySem.W.fnOf "has_sign" "has_sign" (defArgs s_has_sign) (defBody s_has_sign) (defScope s_has_sign) .none kV_has_sign dc_has_sign pm_has_sign an_has_sign cd_has_sign ct_has_sign), sl_has_sign⟩)
    (c_has_sign : PySem.W.codeIn K cd_has_sign "has_sign" = true)
    (k_has_sign : PySem.W.keepIn K (.ref f_has_sign) = true)
    (a_are_steps : PySem.W.nsIn K mainGlobals "are_steps" = some (some (.ref f_are_steps)))
    (l_are_steps : K.lookup f_are_steps = some ⟨oc_are_steps, od_are_steps, .func (PySem.W.fnOf "are_steps" "are_steps" (defArgs s_are_steps) (defBody s_are_steps) (defScope s_are_steps) .none kV_are_steps dc_are_steps pm_are_steps an_are_steps cd_are_steps ct_are_steps), sl_are_steps⟩)
    (c_are_steps : PySem.W.codeIn K cd_are_steps "are_steps" = true)
    (k_are_steps : PySem.W.keepIn K (.ref f_are_steps) = true)
    (a_check_script : PySem.W.nsIn K mainGlobals "check_script" = some (some (.ref f_check_script)))
    (l_check_script : K.lookup f_check_script = some ⟨oc_check_script, od_check_script, .func (PySem.W.fnOf "check_script" "check_script" (defArgs s_check_script) (defBody s_check_script) (defScope s_check_script) .none kV_check_script dc_check_script pm_check_script an_check_script cd_check_script ct_check_script), sl_check_script⟩)
    (c_check_script : PySem.W.codeIn K cd_check_script "check_script" = true)
    (k_check_script : PySem.W.keepIn K (.ref f_check_script) = true)
    (a_holds_in : PySem.W.nsIn K mainGlobals "holds_in" = some (some (.ref f_holds_in)))
    (l_holds_in : K.lookup f_holds_in = some ⟨oc_holds_in, od_holds_in, .func (PySem.W.fnOf "holds_in" "holds_in" (defArgs s_holds_in) (defBody s_holds_in) (defScope s_holds_in) .none kV_holds_in dc_holds_in pm_holds_in an_holds_in cd_holds_in ct_holds_in), sl_holds_in⟩)
    (c_holds_in : PySem.W.codeIn K cd_holds_in "holds_in" = true)
    (k_holds_in : PySem.W.keepIn K (.ref f_holds_in) = true)
    (a_is_held : PySem.W.nsIn K mainGlobals "is_held" = some (some (.ref f_is_held)))
    (l_is_held : K.lookup f_is_held = some ⟨oc_is_held, od_is_held, .func (PySem.W.fnOf "is_held" "is_held" (defArgs s_is_held) (defBody s_is_held) (defScope s_is_held) .none kV_is_held dc_is_held pm_is_held an_is_held cd_is_held ct_is_held), sl_is_held⟩)
    (c_is_held : PySem.W.codeIn K cd_is_held "is_held" = true)
    (k_is_held : PySem.W.keepIn K (.ref f_is_held) = true)
    (a_least_of : PySem.W.nsIn K mainGlobals "least_of" = some (some (.ref f_least_of)))
    (l_least_of : K.lookup f_least_of = some ⟨oc_least_of, od_least_of, .func (PySem.W.fnOf "least_of" "least_of" (defArgs s_least_of) (defBody s_least_of) (defScope s_least_of) .none kV_least_of dc_least_of pm_least_of an_least_of cd_least_of ct_least_of), sl_least_of⟩)
    (c_least_of : PySem.W.codeIn K cd_least_of "least_of" = true)
    (k_least_of : PySem.W.keepIn K (.ref f_least_of) = true)
    (a_dug : PySem.W.nsIn K mainGlobals "dug" = some (some (.ref f_dug)))
    (l_dug : K.lookup f_dug = some ⟨oc_dug, od_dug, .func (PySem.W.fnOf "dug" "dug" (defArgs s_dug) (defBody s_dug) (defScope s_dug) .none kV_dug dc_dug pm_dug an_dug cd_dug ct_dug), sl_dug⟩)
    (c_dug : PySem.W.codeIn K cd_dug "dug" = true)
    (k_dug : PySem.W.keepIn K (.ref f_dug) = true)
    (a_behind_step : PySem.W.nsIn K mainGlobals "behind_step" = some (some (.ref f_behind_step)))
    (l_behind_step : K.lookup f_behind_step = some ⟨oc_behind_step, od_behind_step, .func (PySem.W.fnOf "behind_step" "behind_step" (defArgs s_behind_step) (defBody s_behind_step) (defScope s_behind_step) .none kV_behind_step dc_behind_step pm_behind_step an_behind_step cd_behind_step ct_behind_step), sl_behind_step⟩)
    (c_behind_step : PySem.W.codeIn K cd_behind_step "behind_step" = true)
    (k_behind_step : PySem.W.keepIn K (.ref f_behind_step) = true)
    (a_reason_table : PySem.W.nsIn K mainGlobals "reason_table" = some (some (.ref f_reason_table)))
    (l_reason_table : K.lookup f_reason_table = some ⟨oc_reason_table, od_reason_table, .func (PySem.W.fnOf "reason_table" "reason_table" (defArgs s_reason_table) (defBody s_reason_table) (defScope s_reason_table) .none kV_reason_table dc_reason_table pm_reason_table an_reason_table cd_reason_table ct_reason_table), sl_reason_table⟩)
    (c_reason_table : PySem.W.codeIn K cd_reason_table "reason_table" = true)
    (k_reason_table : PySem.W.keepIn K (.ref f_reason_table) = true)
    (a_cells_of : PySem.W.nsIn K mainGlobals "cells_of" = some (some (.ref f_cells_of)))
    (l_cells_of : K.lookup f_cells_of = some ⟨oc_cells_of, od_cells_of, .func (PySem.W.fnOf "cells_of" "cells_of" (defArgs s_cells_of) (defBody s_cells_of) (defScope s_cells_of) .none kV_cells_of dc_cells_of pm_cells_of an_cells_of cd_cells_of ct_cells_of), sl_cells_of⟩)
    (c_cells_of : PySem.W.codeIn K cd_cells_of "cells_of" = true)
    (k_cells_of : PySem.W.keepIn K (.ref f_cells_of) = true)
    (a_reasons : PySem.W.nsIn K mainGlobals "reasons" = some (some (.ref f_reasons)))
    (l_reasons : K.lookup f_reasons = some ⟨oc_reasons, od_reasons, .func (PySem.W.fnOf "reasons" "reasons" (defArgs s_reasons) (defBody s_reasons) (defScope s_reasons) .none kV_reasons dc_reasons pm_reasons an_reasons cd_reasons ct_reasons), sl_reasons⟩)
    (c_reasons : PySem.W.codeIn K cd_reasons "reasons" = true)
    (k_reasons : PySem.W.keepIn K (.ref f_reasons) = true)
    (a_moved_table : PySem.W.nsIn K mainGlobals "moved_table" = some (some (.ref f_moved_table)))
    (l_moved_table : K.lookup f_moved_table = some ⟨oc_moved_table, od_moved_table, .func (PySem.W.fnOf "moved_table" "moved_table" (defArgs s_moved_table) (defBody s_moved_table) (defScope s_moved_table) .none kV_moved_table dc_moved_table pm_moved_table an_moved_table cd_moved_table ct_moved_table), sl_moved_table⟩)
    (c_moved_table : PySem.W.codeIn K cd_moved_table "moved_table" = true)
    (k_moved_table : PySem.W.keepIn K (.ref f_moved_table) = true)
    (a_put_down : PySem.W.nsIn K mainGlobals "put_down" = some (some (.ref f_put_down)))
    (l_put_down : K.lookup f_put_down = some ⟨oc_put_down, od_put_down, .func (PySem.W.fnOf "put_down" "put_down" (defArgs s_put_down) (defBody s_put_down) (defScope s_put_down) .none kV_put_down dc_put_down pm_put_down an_put_down cd_put_down ct_put_down), sl_put_down⟩)
    (c_put_down : PySem.W.codeIn K cd_put_down "put_down" = true)
    (k_put_down : PySem.W.keepIn K (.ref f_put_down) = true)
    (a_more_of : PySem.W.nsIn K mainGlobals "more_of" = some (some (.ref f_more_of)))
    (l_more_of : K.lookup f_more_of = some ⟨oc_more_of, od_more_of, .func (PySem.W.fnOf "more_of" "more_of" (defArgs s_more_of) (defBody s_more_of) (defScope s_more_of) .none kV_more_of dc_more_of pm_more_of an_more_of cd_more_of ct_more_of), sl_more_of⟩)
    (c_more_of : PySem.W.codeIn K cd_more_of "more_of" = true)
    (k_more_of : PySem.W.keepIn K (.ref f_more_of) = true)
    (a_check_two : PySem.W.nsIn K mainGlobals "check_two" = some (some (.ref f_check_two)))
    (l_check_two : K.lookup f_check_two = some ⟨oc_check_two, od_check_two, .func (PySem.W.fnOf "check_two" "check_two" (defArgs s_check_two) (defBody s_check_two) (defScope s_check_two) .none kV_check_two dc_check_two pm_check_two an_check_two cd_check_two ct_check_two), sl_check_two⟩)
    (c_check_two : PySem.W.codeIn K cd_check_two "check_two" = true)
    (k_check_two : PySem.W.keepIn K (.ref f_check_two) = true)
    (a_more_file : PySem.W.nsIn K mainGlobals "more_file" = some (some (.ref f_more_file)))
    (l_more_file : K.lookup f_more_file = some ⟨oc_more_file, od_more_file, .func (PySem.W.fnOf "more_file" "more_file" (defArgs s_more_file) (defBody s_more_file) (defScope s_more_file) .none kV_more_file dc_more_file pm_more_file an_more_file cd_more_file ct_more_file), sl_more_file⟩)
    (c_more_file : PySem.W.codeIn K cd_more_file "more_file" = true)
    (k_more_file : PySem.W.keepIn K (.ref f_more_file) = true)
    (a_never_more : PySem.W.nsIn K mainGlobals "never_more" = some (some (.ref f_never_more)))
    (l_never_more : K.lookup f_never_more = some ⟨oc_never_more, od_never_more, .func (PySem.W.fnOf "never_more" "never_more" (defArgs s_never_more) (defBody s_never_more) (defScope s_never_more) .none kV_never_more dc_never_more pm_never_more an_never_more cd_never_more ct_never_more), sl_never_more⟩)
    (c_never_more : PySem.W.codeIn K cd_never_more "never_more" = true)
    (k_never_more : PySem.W.keepIn K (.ref f_never_more) = true)
    (a_parting_of : PySem.W.nsIn K mainGlobals "parting_of" = some (some (.ref f_parting_of)))
    (l_parting_of : K.lookup f_parting_of = some ⟨oc_parting_of, od_parting_of, .func (PySem.W.fnOf "parting_of" "parting_of" (defArgs s_parting_of) (defBody s_parting_of) (defScope s_parting_of) .none kV_parting_of dc_parting_of pm_parting_of an_parting_of cd_parting_of ct_parting_of), sl_parting_of⟩)
    (c_parting_of : PySem.W.codeIn K cd_parting_of "parting_of" = true)
    (k_parting_of : PySem.W.keepIn K (.ref f_parting_of) = true)
    (a_parting : PySem.W.nsIn K mainGlobals "parting" = some (some (.ref f_parting)))
    (l_parting : K.lookup f_parting = some ⟨oc_parting, od_parting, .func (PySem.W.fnOf "parting" "parting" (defArgs s_parting) (defBody s_parting) (defScope s_parting) .none kV_parting dc_parting pm_parting an_parting cd_parting ct_parting), sl_parting⟩)
    (c_parting : PySem.W.codeIn K cd_parting "parting" = true)
    (k_parting : PySem.W.keepIn K (.ref f_parting) = true)
    (a_alike : PySem.W.nsIn K mainGlobals "alike" = some (some (.ref f_alike)))
    (l_alike : K.lookup f_alike = some ⟨oc_alike, od_alike, .func (PySem.W.fnOf "alike" "alike" (defArgs s_alike) (defBody s_alike) (defScope s_alike) .none kV_alike dc_alike pm_alike an_alike cd_alike ct_alike), sl_alike⟩)
    (c_alike : PySem.W.codeIn K cd_alike "alike" = true)
    (k_alike : PySem.W.keepIn K (.ref f_alike) = true)
    (a_exchangeable : PySem.W.nsIn K mainGlobals "exchangeable" = some (some (.ref f_exchangeable)))
    (l_exchangeable : K.lookup f_exchangeable = some ⟨oc_exchangeable, od_exchangeable, .func (PySem.W.fnOf "exchangeable" "exchangeable" (defArgs s_exchangeable) (defBody s_exchangeable) (defScope s_exchangeable) .none kV_exchangeable dc_exchangeable pm_exchangeable an_exchangeable cd_exchangeable ct_exchangeable), sl_exchangeable⟩)
    (c_exchangeable : PySem.W.codeIn K cd_exchangeable "exchangeable" = true)
    (k_exchangeable : PySem.W.keepIn K (.ref f_exchangeable) = true)
    (a_law_files_right : PySem.W.nsIn K mainGlobals "_law_files_right" = some (some (.ref f_law_files_right)))
    (l_law_files_right : K.lookup f_law_files_right = some ⟨oc_law_files_right, od_law_files_right, .func (PySem.W.fnOf "_law_files_right" "_law_files_right" (defArgs s_law_files_right) (defBody s_law_files_right) (defScope s_law_files_right) .none kV_law_files_right dc_law_files_right pm_law_files_right an_law_files_right cd_law_files_right ct_law_files_right), sl_law_files_right⟩)
    (c_law_files_right : PySem.W.codeIn K cd_law_files_right "_law_files_right" = true)
    (k_law_files_right : PySem.W.keepIn K (.ref f_law_files_right) = true)
    (a_law_rest_right : PySem.W.nsIn K mainGlobals "_law_rest_right" = some (some (.ref f_law_rest_right)))
    (l_law_rest_right : K.lookup f_law_rest_right = some ⟨oc_law_rest_right, od_law_rest_right, .func (PySem.W.fnOf "_law_rest_right" "_law_rest_right" (defArgs s_law_rest_right) (defBody s_law_rest_right) (defScope s_law_rest_right) .none kV_law_rest_right dc_law_rest_right pm_law_rest_right an_law_rest_right cd_law_rest_right ct_law_rest_right), sl_law_rest_right⟩)
    (c_law_rest_right : PySem.W.codeIn K cd_law_rest_right "_law_rest_right" = true)
    (k_law_rest_right : PySem.W.keepIn K (.ref f_law_rest_right) = true)
    (a_law : PySem.W.nsIn K mainGlobals "law" = some (some (.ref f_law)))
    (l_law : K.lookup f_law = some ⟨oc_law, od_law, .func (PySem.W.fnOf "law" "law" (defArgs s_law) (defBody s_law) (defScope s_law) .none kV_law dc_law pm_law an_law cd_law ct_law), sl_law⟩)
    (c_law : PySem.W.codeIn K cd_law "law" = true)
    (k_law : PySem.W.keepIn K (.ref f_law) = true)
    (a_File_init : PySem.W.findIn K (.ref C_File) "__init__" = some (some (.ref f_File_init)))
    (i_File_init : PySem.W.isFn K (.ref f_File_init) = true)
    (l_File_init : K.lookup f_File_init = some ⟨oc_File_init, od_File_init, .func (PySem.W.fnOf "__init__" "File.__init__" (defArgs s_File_init) (defBody s_File_init) (defScope s_File_init) (.ref T_File_init) kV_File_init dc_File_init pm_File_init an_File_init cd_File_init ct_File_init), sl_File_init⟩)
    (c_File_init : PySem.W.codeIn K cd_File_init "File.__init__" = true)
    (k_File_init : PySem.W.keepIn K (.ref f_File_init) = true)
    (ld_File_init : K.lookup T_File_init = some ⟨ocT_File_init, odT_File_init, .seq #[(.str "" tk0_File_init)] nT_File_init, slT_File_init⟩)
    (pa_File_cells : PySem.W.findIn K (.ref C_File) "cells" = some (some (.ref pr_File_cells)))
    (pb_File_cells : PySem.W.specialIn K (.ref pr_File_cells) "__get__" = some (some (.builtin "property.__get__")))
    (pc_File_cells : PySem.W.takesIn K (.ref pr_File_cells) = some true)
    (pd_File_cells : PySem.W.recIn K pr_File_cells "property" = some (.ref f_File_cells :: rs_File_cells))
    (l_File_cells : K.lookup f_File_cells = some ⟨oc_File_cells, od_File_cells, .func (PySem.W.fnOf "cells" "File.cells" (defArgs s_File_cells) (defBody s_File_cells) (defScope s_File_cells) .none kV_File_cells dc_File_cells pm_File_cells an_File_cells cd_File_cells ct_File_cells), sl_File_cells⟩)
    (c_File_cells : PySem.W.codeIn K cd_File_cells "File.cells" = true)
    (k_File_cells : PySem.W.keepIn K (.ref f_File_cells) = true)
    (a_File_eq : PySem.W.findIn K (.ref C_File) "__eq__" = some (some (.ref f_File_eq)))
    (i_File_eq : PySem.W.isFn K (.ref f_File_eq) = true)
    (l_File_eq : K.lookup f_File_eq = some ⟨oc_File_eq, od_File_eq, .func (PySem.W.fnOf "__eq__" "File.__eq__" (defArgs s_File_eq) (defBody s_File_eq) (defScope s_File_eq) .none kV_File_eq dc_File_eq pm_File_eq an_File_eq cd_File_eq ct_File_eq), sl_File_eq⟩)
    (c_File_eq : PySem.W.codeIn K cd_File_eq "File.__eq__" = true)
    (k_File_eq : PySem.W.keepIn K (.ref f_File_eq) = true)
    (a_File_cut : PySem.W.findIn K (.ref C_File) "cut" = some (some (.ref f_File_cut)))
    (i_File_cut : PySem.W.isFn K (.ref f_File_cut) = true)
    (l_File_cut : K.lookup f_File_cut = some ⟨oc_File_cut, od_File_cut, .func (PySem.W.fnOf "cut" "File.cut" (defArgs s_File_cut) (defBody s_File_cut) (defScope s_File_cut) .none kV_File_cut dc_File_cut pm_File_cut an_File_cut cd_File_cut ct_File_cut), sl_File_cut⟩)
    (c_File_cut : PySem.W.codeIn K cd_File_cut "File.cut" = true)
    (k_File_cut : PySem.W.keepIn K (.ref f_File_cut) = true)
    (a_File_grown : PySem.W.findIn K (.ref C_File) "grown" = some (some (.ref f_File_grown)))
    (i_File_grown : PySem.W.isFn K (.ref f_File_grown) = true)
    (l_File_grown : K.lookup f_File_grown = some ⟨oc_File_grown, od_File_grown, .func (PySem.W.fnOf "grown" "File.grown" (defArgs s_File_grown) (defBody s_File_grown) (defScope s_File_grown) .none kV_File_grown dc_File_grown pm_File_grown an_File_grown cd_File_grown ct_File_grown), sl_File_grown⟩)
    (c_File_grown : PySem.W.codeIn K cd_File_grown "File.grown" = true)
    (k_File_grown : PySem.W.keepIn K (.ref f_File_grown) = true)
    (a_File_punched : PySem.W.findIn K (.ref C_File) "punched" = some (some (.ref f_File_punched)))
    (i_File_punched : PySem.W.isFn K (.ref f_File_punched) = true)
    (l_File_punched : K.lookup f_File_punched = some ⟨oc_File_punched, od_File_punched, .func (PySem.W.fnOf "punched" "File.punched" (defArgs s_File_punched) (defBody s_File_punched) (defScope s_File_punched) .none kV_File_punched dc_File_punched pm_File_punched an_File_punched cd_File_punched ct_File_punched), sl_File_punched⟩)
    (c_File_punched : PySem.W.codeIn K cd_File_punched "File.punched" = true)
    (k_File_punched : PySem.W.keepIn K (.ref f_File_punched) = true)
    (a_Step_play : PySem.W.findIn K (.ref C_Step) "play" = some (some (.ref f_Step_play)))
    (i_Step_play : PySem.W.isFn K (.ref f_Step_play) = true)
    (l_Step_play : K.lookup f_Step_play = some ⟨oc_Step_play, od_Step_play, .func (PySem.W.fnOf "play" "Step.play" (defArgs s_Step_play) (defBody s_Step_play) (defScope s_Step_play) .none kV_Step_play dc_Step_play pm_Step_play an_Step_play cd_Step_play ct_Step_play), sl_Step_play⟩)
    (c_Step_play : PySem.W.codeIn K cd_Step_play "Step.play" = true)
    (k_Step_play : PySem.W.keepIn K (.ref f_Step_play) = true)
    (a_Full_changed : PySem.W.findIn K (.ref C_Full) "changed" = some (some (.ref f_Full_changed)))
    (i_Full_changed : PySem.W.isFn K (.ref f_Full_changed) = true)
    (l_Full_changed : K.lookup f_Full_changed = some ⟨oc_Full_changed, od_Full_changed, .func (PySem.W.fnOf "changed" "Full.changed" (defArgs s_Full_changed) (defBody s_Full_changed) (defScope s_Full_changed) .none kV_Full_changed dc_Full_changed pm_Full_changed an_Full_changed cd_Full_changed ct_Full_changed), sl_Full_changed⟩)
    (c_Full_changed : PySem.W.codeIn K cd_Full_changed "Full.changed" = true)
    (k_Full_changed : PySem.W.keepIn K (.ref f_Full_changed) = true)
    (a_Full_eq : PySem.W.findIn K (.ref C_Full) "__eq__" = some (some (.ref f_Full_eq)))
    (i_Full_eq : PySem.W.isFn K (.ref f_Full_eq) = true)
    (l_Full_eq : K.lookup f_Full_eq = some ⟨oc_Full_eq, od_Full_eq, .func (PySem.W.fnOf "__eq__" "Full.__eq__" (defArgs s_Full_eq) (defBody s_Full_eq) (defScope s_Full_eq) .none kV_Full_eq dc_Full_eq pm_Full_eq an_Full_eq cd_Full_eq ct_Full_eq), sl_Full_eq⟩)
    (c_Full_eq : PySem.W.codeIn K cd_Full_eq "Full.__eq__" = true)
    (k_Full_eq : PySem.W.keepIn K (.ref f_Full_eq) = true)
    (a_Keep_init : PySem.W.findIn K (.ref C_Keep) "__init__" = some (some (.ref f_Keep_init)))
    (i_Keep_init : PySem.W.isFn K (.ref f_Keep_init) = true)
    (l_Keep_init : K.lookup f_Keep_init = some ⟨oc_Keep_init, od_Keep_init, .func (PySem.W.fnOf "__init__" "Keep.__init__" (defArgs s_Keep_init) (defBody s_Keep_init) (defScope s_Keep_init) .none kV_Keep_init dc_Keep_init pm_Keep_init an_Keep_init cd_Keep_init ct_Keep_init), sl_Keep_init⟩)
    (c_Keep_init : PySem.W.codeIn K cd_Keep_init "Keep.__init__" = true)
    (k_Keep_init : PySem.W.keepIn K (.ref f_Keep_init) = true)
    (pa_Keep_size : PySem.W.findIn K (.ref C_Keep) "size" = some (some (.ref pr_Keep_size)))
    (pb_Keep_size : PySem.W.specialIn K (.ref pr_Keep_size) "__get__" = some (some (.builtin "property.__get__")))
    (pc_Keep_size : PySem.W.takesIn K (.ref pr_Keep_size) = some true)
    (pd_Keep_size : PySem.W.recIn K pr_Keep_size "property" = some (.ref f_Keep_size :: rs_Keep_size))
    (l_Keep_size : K.lookup f_Keep_size = some ⟨oc_Keep_size, od_Keep_size, .func (PySem.W.fnOf "size" "Keep.size" (defArgs s_Keep_size) (defBody s_Keep_size) (defScope s_Keep_size) .none kV_Keep_size dc_Keep_size pm_Keep_size an_Keep_size cd_Keep_size ct_Keep_size), sl_Keep_size⟩)
    (c_Keep_size : PySem.W.codeIn K cd_Keep_size "Keep.size" = true)
    (k_Keep_size : PySem.W.keepIn K (.ref f_Keep_size) = true)
    (a_Keep_changed : PySem.W.findIn K (.ref C_Keep) "changed" = some (some (.ref f_Keep_changed)))
    (i_Keep_changed : PySem.W.isFn K (.ref f_Keep_changed) = true)
    (l_Keep_changed : K.lookup f_Keep_changed = some ⟨oc_Keep_changed, od_Keep_changed, .func (PySem.W.fnOf "changed" "Keep.changed" (defArgs s_Keep_changed) (defBody s_Keep_changed) (defScope s_Keep_changed) .none kV_Keep_changed dc_Keep_changed pm_Keep_changed an_Keep_changed cd_Keep_changed ct_Keep_changed), sl_Keep_changed⟩)
    (c_Keep_changed : PySem.W.codeIn K cd_Keep_changed "Keep.changed" = true)
    (k_Keep_changed : PySem.W.keepIn K (.ref f_Keep_changed) = true)
    (a_Keep_eq : PySem.W.findIn K (.ref C_Keep) "__eq__" = some (some (.ref f_Keep_eq)))
    (i_Keep_eq : PySem.W.isFn K (.ref f_Keep_eq) = true)
    (l_Keep_eq : K.lookup f_Keep_eq = some ⟨oc_Keep_eq, od_Keep_eq, .func (PySem.W.fnOf "__eq__" "Keep.__eq__" (defArgs s_Keep_eq) (defBody s_Keep_eq) (defScope s_Keep_eq) .none kV_Keep_eq dc_Keep_eq pm_Keep_eq an_Keep_eq cd_Keep_eq ct_Keep_eq), sl_Keep_eq⟩)
    (c_Keep_eq : PySem.W.codeIn K cd_Keep_eq "Keep.__eq__" = true)
    (k_Keep_eq : PySem.W.keepIn K (.ref f_Keep_eq) = true)
    (a_Lean_init : PySem.W.findIn K (.ref C_Lean) "__init__" = some (some (.ref f_Lean_init)))
    (i_Lean_init : PySem.W.isFn K (.ref f_Lean_init) = true)
    (l_Lean_init : K.lookup f_Lean_init = some ⟨oc_Lean_init, od_Lean_init, .func (PySem.W.fnOf "__init__" "Lean.__init__" (defArgs s_Lean_init) (defBody s_Lean_init) (defScope s_Lean_init) .none kV_Lean_init dc_Lean_init pm_Lean_init an_Lean_init cd_Lean_init ct_Lean_init), sl_Lean_init⟩)
    (c_Lean_init : PySem.W.codeIn K cd_Lean_init "Lean.__init__" = true)
    (k_Lean_init : PySem.W.keepIn K (.ref f_Lean_init) = true)
    (pa_Lean_size : PySem.W.findIn K (.ref C_Lean) "size" = some (some (.ref pr_Lean_size)))
    (pb_Lean_size : PySem.W.specialIn K (.ref pr_Lean_size) "__get__" = some (some (.builtin "property.__get__")))
    (pc_Lean_size : PySem.W.takesIn K (.ref pr_Lean_size) = some true)
    (pd_Lean_size : PySem.W.recIn K pr_Lean_size "property" = some (.ref f_Lean_size :: rs_Lean_size))
    (l_Lean_size : K.lookup f_Lean_size = some ⟨oc_Lean_size, od_Lean_size, .func (PySem.W.fnOf "size" "Lean.size" (defArgs s_Lean_size) (defBody s_Lean_size) (defScope s_Lean_size) .none kV_Lean_size dc_Lean_size pm_Lean_size an_Lean_size cd_Lean_size ct_Lean_size), sl_Lean_size⟩)
    (c_Lean_size : PySem.W.codeIn K cd_Lean_size "Lean.size" = true)
    (k_Lean_size : PySem.W.keepIn K (.ref f_Lean_size) = true)
    (a_Lean_changed : PySem.W.findIn K (.ref C_Lean) "changed" = some (some (.ref f_Lean_changed)))
    (i_Lean_changed : PySem.W.isFn K (.ref f_Lean_changed) = true)
    (l_Lean_changed : K.lookup f_Lean_changed = some ⟨oc_Lean_changed, od_Lean_changed, .func (PySem.W.fnOf "changed" "Lean.changed" (defArgs s_Lean_changed) (defBody s_Lean_changed) (defScope s_Lean_changed) .none kV_Lean_changed dc_Lean_changed pm_Lean_changed an_Lean_changed cd_Lean_changed ct_Lean_changed), sl_Lean_changed⟩)
    (c_Lean_changed : PySem.W.codeIn K cd_Lean_changed "Lean.changed" = true)
    (k_Lean_changed : PySem.W.keepIn K (.ref f_Lean_changed) = true)
    (a_Lean_eq : PySem.W.findIn K (.ref C_Lean) "__eq__" = some (some (.ref f_Lean_eq)))
    (i_Lean_eq : PySem.W.isFn K (.ref f_Lean_eq) = true)
    (l_Lean_eq : K.lookup f_Lean_eq = some ⟨oc_Lean_eq, od_Lean_eq, .func (PySem.W.fnOf "__eq__" "Lean.__eq__" (defArgs s_Lean_eq) (defBody s_Lean_eq) (defScope s_Lean_eq) .none kV_Lean_eq dc_Lean_eq pm_Lean_eq an_Lean_eq cd_Lean_eq ct_Lean_eq), sl_Lean_eq⟩)
    (c_Lean_eq : PySem.W.codeIn K cd_Lean_eq "Lean.__eq__" = true)
    (k_Lean_eq : PySem.W.keepIn K (.ref f_Lean_eq) = true)
    (a_Dig_init : PySem.W.findIn K (.ref C_Dig) "__init__" = some (some (.ref f_Dig_init)))
    (i_Dig_init : PySem.W.isFn K (.ref f_Dig_init) = true)
    (l_Dig_init : K.lookup f_Dig_init = some ⟨oc_Dig_init, od_Dig_init, .func (PySem.W.fnOf "__init__" "Dig.__init__" (defArgs s_Dig_init) (defBody s_Dig_init) (defScope s_Dig_init) .none kV_Dig_init dc_Dig_init pm_Dig_init an_Dig_init cd_Dig_init ct_Dig_init), sl_Dig_init⟩)
    (c_Dig_init : PySem.W.codeIn K cd_Dig_init "Dig.__init__" = true)
    (k_Dig_init : PySem.W.keepIn K (.ref f_Dig_init) = true)
    (pa_Dig_size : PySem.W.findIn K (.ref C_Dig) "size" = some (some (.ref pr_Dig_size)))
    (pb_Dig_size : PySem.W.specialIn K (.ref pr_Dig_size) "__get__" = some (some (.builtin "property.__get__")))
    (pc_Dig_size : PySem.W.takesIn K (.ref pr_Dig_size) = some true)
    (pd_Dig_size : PySem.W.recIn K pr_Dig_size "property" = some (.ref f_Dig_size :: rs_Dig_size))
    (l_Dig_size : K.lookup f_Dig_size = some ⟨oc_Dig_size, od_Dig_size, .func (PySem.W.fnOf "size" "Dig.size" (defArgs s_Dig_size) (defBody s_Dig_size) (defScope s_Dig_size) .none kV_Dig_size dc_Dig_size pm_Dig_size an_Dig_size cd_Dig_size ct_Dig_size), sl_Dig_size⟩)
    (c_Dig_size : PySem.W.codeIn K cd_Dig_size "Dig.size" = true)
    (k_Dig_size : PySem.W.keepIn K (.ref f_Dig_size) = true)
    (a_Dig_changed : PySem.W.findIn K (.ref C_Dig) "changed" = some (some (.ref f_Dig_changed)))
    (i_Dig_changed : PySem.W.isFn K (.ref f_Dig_changed) = true)
    (l_Dig_changed : K.lookup f_Dig_changed = some ⟨oc_Dig_changed, od_Dig_changed, .func (PySem.W.fnOf "changed" "Dig.changed" (defArgs s_Dig_changed) (defBody s_Dig_changed) (defScope s_Dig_changed) .none kV_Dig_changed dc_Dig_changed pm_Dig_changed an_Dig_changed cd_Dig_changed ct_Dig_changed), sl_Dig_changed⟩)
    (c_Dig_changed : PySem.W.codeIn K cd_Dig_changed "Dig.changed" = true)
    (k_Dig_changed : PySem.W.keepIn K (.ref f_Dig_changed) = true)
    (a_Dig_eq : PySem.W.findIn K (.ref C_Dig) "__eq__" = some (some (.ref f_Dig_eq)))
    (i_Dig_eq : PySem.W.isFn K (.ref f_Dig_eq) = true)
    (l_Dig_eq : K.lookup f_Dig_eq = some ⟨oc_Dig_eq, od_Dig_eq, .func (PySem.W.fnOf "__eq__" "Dig.__eq__" (defArgs s_Dig_eq) (defBody s_Dig_eq) (defScope s_Dig_eq) .none kV_Dig_eq dc_Dig_eq pm_Dig_eq an_Dig_eq cd_Dig_eq ct_Dig_eq), sl_Dig_eq⟩)
    (c_Dig_eq : PySem.W.codeIn K cd_Dig_eq "Dig.__eq__" = true)
    (k_Dig_eq : PySem.W.keepIn K (.ref f_Dig_eq) = true)
    (a_Script_init : PySem.W.findIn K (.ref C_Script) "__init__" = some (some (.ref f_Script_init)))
    (i_Script_init : PySem.W.isFn K (.ref f_Script_init) = true)
    (l_Script_init : K.lookup f_Script_init = some ⟨oc_Script_init, od_Script_init, .func (PySem.W.fnOf "__init__" "Script.__init__" (defArgs s_Script_init) (defBody s_Script_init) (defScope s_Script_init) (.ref T_Script_init) kV_Script_init dc_Script_init pm_Script_init an_Script_init cd_Script_init ct_Script_init), sl_Script_init⟩)
    (c_Script_init : PySem.W.codeIn K cd_Script_init "Script.__init__" = true)
    (k_Script_init : PySem.W.keepIn K (.ref f_Script_init) = true)
    (ld_Script_init : K.lookup T_Script_init = some ⟨ocT_Script_init, odT_Script_init, .seq #[.none] nT_Script_init, slT_Script_init⟩)
    (pa_Script_period : PySem.W.findIn K (.ref C_Script) "period" = some (some (.ref pr_Script_period)))
    (pb_Script_period : PySem.W.specialIn K (.ref pr_Script_period) "__get__" = some (some (.builtin "property.__get__")))
    (pc_Script_period : PySem.W.takesIn K (.ref pr_Script_period) = some true)
    (pd_Script_period : PySem.W.recIn K pr_Script_period "property" = some (.ref f_Script_period :: rs_Script_period))
    (l_Script_period : K.lookup f_Script_period = some ⟨oc_Script_period, od_Script_period, .func (PySem.W.fnOf "period" "Script.period" (defArgs s_Script_period) (defBody s_Script_period) (defScope s_Script_period) .none kV_Script_period dc_Script_period pm_Script_period an_Script_period cd_Script_period ct_Script_period), sl_Script_period⟩)
    (c_Script_period : PySem.W.codeIn K cd_Script_period "Script.period" = true)
    (k_Script_period : PySem.W.keepIn K (.ref f_Script_period) = true)
    (a_Script_iter : PySem.W.findIn K (.ref C_Script) "__iter__" = some (some (.ref f_Script_iter)))
    (i_Script_iter : PySem.W.isFn K (.ref f_Script_iter) = true)
    (l_Script_iter : K.lookup f_Script_iter = some ⟨oc_Script_iter, od_Script_iter, .func (PySem.W.fnOf "__iter__" "Script.__iter__" (defArgs s_Script_iter) (defBody s_Script_iter) (defScope s_Script_iter) .none kV_Script_iter dc_Script_iter pm_Script_iter an_Script_iter cd_Script_iter ct_Script_iter), sl_Script_iter⟩)
    (c_Script_iter : PySem.W.codeIn K cd_Script_iter "Script.__iter__" = true)
    (k_Script_iter : PySem.W.keepIn K (.ref f_Script_iter) = true)
    (a_Script_eq : PySem.W.findIn K (.ref C_Script) "__eq__" = some (some (.ref f_Script_eq)))
    (i_Script_eq : PySem.W.isFn K (.ref f_Script_eq) = true)
    (l_Script_eq : K.lookup f_Script_eq = some ⟨oc_Script_eq, od_Script_eq, .func (PySem.W.fnOf "__eq__" "Script.__eq__" (defArgs s_Script_eq) (defBody s_Script_eq) (defScope s_Script_eq) .none kV_Script_eq dc_Script_eq pm_Script_eq an_Script_eq cd_Script_eq ct_Script_eq), sl_Script_eq⟩)
    (c_Script_eq : PySem.W.codeIn K cd_Script_eq "Script.__eq__" = true)
    (k_Script_eq : PySem.W.keepIn K (.ref f_Script_eq) = true)
    (a_Script_add : PySem.W.findIn K (.ref C_Script) "__add__" = some (some (.ref f_Script_add)))
    (i_Script_add : PySem.W.isFn K (.ref f_Script_add) = true)
    (l_Script_add : K.lookup f_Script_add = some ⟨oc_Script_add, od_Script_add, .func (PySem.W.fnOf "__add__" "Script.__add__" (defArgs s_Script_add) (defBody s_Script_add) (defScope s_Script_add) .none kV_Script_add dc_Script_add pm_Script_add an_Script_add cd_Script_add ct_Script_add), sl_Script_add⟩)
    (c_Script_add : PySem.W.codeIn K cd_Script_add "Script.__add__" = true)
    (k_Script_add : PySem.W.keepIn K (.ref f_Script_add) = true)
    (a_Script_without : PySem.W.findIn K (.ref C_Script) "without" = some (some (.ref f_Script_without)))
    (i_Script_without : PySem.W.isFn K (.ref f_Script_without) = true)
    (l_Script_without : K.lookup f_Script_without = some ⟨oc_Script_without, od_Script_without, .func (PySem.W.fnOf "without" "Script.without" (defArgs s_Script_without) (defBody s_Script_without) (defScope s_Script_without) .none kV_Script_without dc_Script_without pm_Script_without an_Script_without cd_Script_without ct_Script_without), sl_Script_without⟩)
    (c_Script_without : PySem.W.codeIn K cd_Script_without "Script.without" = true)
    (k_Script_without : PySem.W.keepIn K (.ref f_Script_without) = true)
    (a_Script_traces : PySem.W.findIn K (.ref C_Script) "traces" = some (some (.ref f_Script_traces)))
    (i_Script_traces : PySem.W.isFn K (.ref f_Script_traces) = true)
    (l_Script_traces : K.lookup f_Script_traces = some ⟨oc_Script_traces, od_Script_traces, .func (PySem.W.fnOf "traces" "Script.traces" (defArgs s_Script_traces) (defBody s_Script_traces) (defScope s_Script_traces) .none kV_Script_traces dc_Script_traces pm_Script_traces an_Script_traces cd_Script_traces ct_Script_traces), sl_Script_traces⟩)
    (c_Script_traces : PySem.W.codeIn K cd_Script_traces "Script.traces" = true)
    (k_Script_traces : PySem.W.keepIn K (.ref f_Script_traces) = true)
    (a_Script_play : PySem.W.findIn K (.ref C_Script) "play" = some (some (.ref f_Script_play)))
    (i_Script_play : PySem.W.isFn K (.ref f_Script_play) = true)
    (l_Script_play : K.lookup f_Script_play = some ⟨oc_Script_play, od_Script_play, .func (PySem.W.fnOf "play" "Script.play" (defArgs s_Script_play) (defBody s_Script_play) (defScope s_Script_play) .none kV_Script_play dc_Script_play pm_Script_play an_Script_play cd_Script_play ct_Script_play), sl_Script_play⟩)
    (c_Script_play : PySem.W.codeIn K cd_Script_play "Script.play" = true)
    (k_Script_play : PySem.W.keepIn K (.ref f_Script_play) = true)
    (ohn : PySem.W.specialIn K (.builtin "object.__class__") "__get__" = some (some (.builtin "getset_descriptor.__get__")))
    (otk : PySem.W.takesIn K (.builtin "object.__class__") = some true)
    (pg_File : PySem.W.plainGet K C_File Str.empty = true)
    (hd_File : PySem.W.hasDictIn K C_File = true)
    (po_File : PySem.W.plainOver K C_File = true)
    (sa_File : PySem.W.findIn K (.ref C_File) "__setattr__" = some (some (.builtin "object.__setattr__")))
    (ha_File : PySem.W.findIn K (.ref C_File) "__class__" = some (some (.builtin "object.__class__")))
    (mr_File : PySem.W.mroIn K C_File (.type "object") = some true)
    (mk_File : PySem.W.makesIn K C_File = true)
    (kc_File : PySem.W.keepIn K (.ref C_File) = true)
    (na_File_row : PySem.W.findIn K (.ref C_File) "row" = some none)
    (pg_Full : PySem.W.plainGet K C_Full Str.empty = true)
    (hd_Full : PySem.W.hasDictIn K C_Full = true)
    (po_Full : PySem.W.plainOver K C_Full = true)
    (sa_Full : PySem.W.findIn K (.ref C_Full) "__setattr__" = some (some (.builtin "object.__setattr__")))
    (ha_Full : PySem.W.findIn K (.ref C_Full) "__class__" = some (some (.builtin "object.__class__")))
    (mr_Full : PySem.W.mroIn K C_Full (.type "object") = some true)
    (ms_Full : PySem.W.mroIn K C_Full (.ref C_Full) = some true)
    (mk_Full : PySem.W.makesIn K C_Full = true)
    (kc_Full : PySem.W.keepIn K (.ref C_Full) = true)
    (ii_Full : PySem.W.findIn K (.ref C_Full) "__init__" = some (some (.builtin "object.__init__")))
    (pg_Keep : PySem.W.plainGet K C_Keep Str.empty = true)
    (hd_Keep : PySem.W.hasDictIn K C_Keep = true)
    (po_Keep : PySem.W.plainOver K C_Keep = true)
    (sa_Keep : PySem.W.findIn K (.ref C_Keep) "__setattr__" = some (some (.builtin "object.__setattr__")))
    (ha_Keep : PySem.W.findIn K (.ref C_Keep) "__class__" = some (some (.builtin "object.__class__")))
    (mr_Keep : PySem.W.mroIn K C_Keep (.type "object") = some true)
    (ms_Keep : PySem.W.mroIn K C_Keep (.ref C_Keep) = some true)
    (mk_Keep : PySem.W.makesIn K C_Keep = true)
    (kc_Keep : PySem.W.keepIn K (.ref C_Keep) = true)
    (na_Keep_wide : PySem.W.findIn K (.ref C_Keep) "wide" = some none)
    (pg_Lean : PySem.W.plainGet K C_Lean Str.empty = true)
    (hd_Lean : PySem.W.hasDictIn K C_Lean = true)
    (po_Lean : PySem.W.plainOver K C_Lean = true)
    (sa_Lean : PySem.W.findIn K (.ref C_Lean) "__setattr__" = some (some (.builtin "object.__setattr__")))
    (ha_Lean : PySem.W.findIn K (.ref C_Lean) "__class__" = some (some (.builtin "object.__class__")))
    (mr_Lean : PySem.W.mroIn K C_Lean (.type "object") = some true)
    (ms_Lean : PySem.W.mroIn K C_Lean (.ref C_Lean) = some true)
    (mk_Lean : PySem.W.makesIn K C_Lean = true)
    (kc_Lean : PySem.W.keepIn K (.ref C_Lean) = true)
    (na_Lean_wide : PySem.W.findIn K (.ref C_Lean) "wide" = some none)
    (pg_Dig : PySem.W.plainGet K C_Dig Str.empty = true)
    (hd_Dig : PySem.W.hasDictIn K C_Dig = true)
    (po_Dig : PySem.W.plainOver K C_Dig = true)
    (sa_Dig : PySem.W.findIn K (.ref C_Dig) "__setattr__" = some (some (.builtin "object.__setattr__")))
    (ha_Dig : PySem.W.findIn K (.ref C_Dig) "__class__" = some (some (.builtin "object.__class__")))
    (mr_Dig : PySem.W.mroIn K C_Dig (.type "object") = some true)
    (ms_Dig : PySem.W.mroIn K C_Dig (.ref C_Dig) = some true)
    (mk_Dig : PySem.W.makesIn K C_Dig = true)
    (kc_Dig : PySem.W.keepIn K (.ref C_Dig) = true)
    (na_Dig_wide : PySem.W.findIn K (.ref C_Dig) "wide" = some none)
    (pg_Script : PySem.W.plainGet K C_Script Str.empty = true)
    (hd_Script : PySem.W.hasDictIn K C_Script = true)
    (po_Script : PySem.W.plainOver K C_Script = true)
    (sa_Script : PySem.W.findIn K (.ref C_Script) "__setattr__" = some (some (.builtin "object.__setattr__")))
    (ha_Script : PySem.W.findIn K (.ref C_Script) "__class__" = some (some (.builtin "object.__class__")))
    (mr_Script : PySem.W.mroIn K C_Script (.type "object") = some true)
    (mk_Script : PySem.W.makesIn K C_Script = true)
    (kc_Script : PySem.W.keepIn K (.ref C_Script) = true)
    (na_Script_rows : PySem.W.findIn K (.ref C_Script) "rows" = some none)
    (ic_Dig : PySem.W.isClsIn K C_Dig = true)
    (tc_Dig : PySem.W.typeIn K (.ref C_Dig) = some (.type "type"))
    (ic_Full : PySem.W.isClsIn K C_Full = true)
    (tc_Full : PySem.W.typeIn K (.ref C_Full) = some (.type "type"))
    (ic_Keep : PySem.W.isClsIn K C_Keep = true)
    (tc_Keep : PySem.W.typeIn K (.ref C_Keep) = some (.type "type"))
    (ic_Lean : PySem.W.isClsIn K C_Lean = true)
    (tc_Lean : PySem.W.typeIn K (.ref C_Lean) = some (.type "type"))
    (ic_Step : PySem.W.isClsIn K C_Step = true)
    (tc_Step : PySem.W.typeIn K (.ref C_Step) = some (.type "type"))
    (ah_Full_play : PySem.W.findIn K (.ref C_Full) "play" = some (some (.ref f_Step_play)))
    (ah_Keep_play : PySem.W.findIn K (.ref C_Keep) "play" = some (some (.ref f_Step_play)))
    (ah_Lean_play : PySem.W.findIn K (.ref C_Lean) "play" = some (some (.ref f_Step_play)))
    (ah_Dig_play : PySem.W.findIn K (.ref C_Dig) "play" = some (some (.ref f_Step_play)))
    (ne_File : PySem.W.findIn K (.ref C_File) "__ne__" = some (some (.builtin "object.__ne__")))
    (ne_Full : PySem.W.findIn K (.ref C_Full) "__ne__" = some (some (.builtin "object.__ne__")))
    (ne_Keep : PySem.W.findIn K (.ref C_Keep) "__ne__" = some (some (.builtin "object.__ne__")))
    (ne_Lean : PySem.W.findIn K (.ref C_Lean) "__ne__" = some (some (.builtin "object.__ne__")))
    (ne_Dig : PySem.W.findIn K (.ref C_Dig) "__ne__" = some (some (.builtin "object.__ne__")))
    (ne_Script : PySem.W.findIn K (.ref C_Script) "__ne__" = some (some (.builtin "object.__ne__")))
    (sf_Script : PySem.W.selfFirst K C_Script = true)
    (s_Full_Dig : PySem.W.subIn K (.ref C_Full) (.ref C_Dig) = some false)
    (s_Full_Keep : PySem.W.subIn K (.ref C_Full) (.ref C_Keep) = some false)
    (s_Full_Lean : PySem.W.subIn K (.ref C_Full) (.ref C_Lean) = some false)
    (s_Full_Step : PySem.W.subIn K (.ref C_Full) (.ref C_Step) = some true)
    (nf_Keep_Full : PySem.W.notFirst K C_Keep (.ref C_Full) = true)
    (nf_Lean_Full : PySem.W.notFirst K C_Lean (.ref C_Full) = true)
    (nf_Dig_Full : PySem.W.notFirst K C_Dig (.ref C_Full) = true)
    (s_Keep_Dig : PySem.W.subIn K (.ref C_Keep) (.ref C_Dig) = some false)
    (s_Keep_Full : PySem.W.subIn K (.ref C_Keep) (.ref C_Full) = some false)
    (s_Keep_Lean : PySem.W.subIn K (.ref C_Keep) (.ref C_Lean) = some false)
    (s_Keep_Step : PySem.W.subIn K (.ref C_Keep) (.ref C_Step) = some true)
    (nf_Full_Keep : PySem.W.notFirst K C_Full (.ref C_Keep) = true)
    (nf_Lean_Keep : PySem.W.notFirst K C_Lean (.ref C_Keep) = true)
    (nf_Dig_Keep : PySem.W.notFirst K C_Dig (.ref C_Keep) = true)
    (s_Lean_Dig : PySem.W.subIn K (.ref C_Lean) (.ref C_Dig) = some false)
    (s_Lean_Full : PySem.W.subIn K (.ref C_Lean) (.ref C_Full) = some false)
    (s_Lean_Keep : PySem.W.subIn K (.ref C_Lean) (.ref C_Keep) = some false)
    (s_Lean_Step : PySem.W.subIn K (.ref C_Lean) (.ref C_Step) = some true)
    (nf_Full_Lean : PySem.W.notFirst K C_Full (.ref C_Lean) = true)
    (nf_Keep_Lean : PySem.W.notFirst K C_Keep (.ref C_Lean) = true)
    (nf_Dig_Lean : PySem.W.notFirst K C_Dig (.ref C_Lean) = true)
    (s_Dig_Full : PySem.W.subIn K (.ref C_Dig) (.ref C_Full) = some false)
    (s_Dig_Keep : PySem.W.subIn K (.ref C_Dig) (.ref C_Keep) = some false)
    (s_Dig_Lean : PySem.W.subIn K (.ref C_Dig) (.ref C_Lean) = some false)
    (s_Dig_Step : PySem.W.subIn K (.ref C_Dig) (.ref C_Step) = some true)
    (nf_Full_Dig : PySem.W.notFirst K C_Full (.ref C_Dig) = true)
    (nf_Keep_Dig : PySem.W.notFirst K C_Keep (.ref C_Dig) = true)
    (nf_Lean_Dig : PySem.W.notFirst K C_Lean (.ref C_Dig) = true)
    (zop : PySem.W.nsIn K cStatics "thirdparty.any" = some none)
    (ac_InvalidFile : PySem.W.nsIn K mainGlobals "InvalidFile" = some (some (.ref C_InvalidFile)))
    (ac_HoleError : PySem.W.nsIn K mainGlobals "HoleError" = some (some (.ref C_HoleError)))
    (xL_InvalidFile : K.lookup C_InvalidFile = some (excClassObj nm_InvalidFile q_InvalidFile C_InvalidFile NN_InvalidFile bs_InvalidFile [.ref C_HoleError, .type "ValueError", .type "Exception", .type "BaseException", .type "object"] true sn_InvalidFile sub_InvalidFile ab_InvalidFile col_InvalidFile dd_InvalidFile m0_InvalidFile m1_InvalidFile m2_InvalidFile m3_InvalidFile m5_InvalidFile "ValueError.__new__"))
    (sa_InvalidFile : PySem.W.findIn K (.ref C_InvalidFile) "__setattr__" = some (some (.builtin "object.__setattr__")))
    (nb_InvalidFile : PySem.W.findIn K (.ref C_InvalidFile) "value" = some none)
    (i_InvalidFile : PySem.W.findIn K (.ref C_InvalidFile) "__init__" = some (some (.ref I_InvalidFile)))
    (t_InvalidFile : PySem.W.typeIn K (.ref I_InvalidFile) = some (.type "function"))
    (l_InvalidFile : K.lookup I_InvalidFile = some ⟨oc_InvalidFile, od_InvalidFile, .func (ksFn "__init__" "InvalidFile.__init__" (defArgs si_InvalidFile) (defBody si_InvalidFile) (defScope si_InvalidFile) (.ref T_InvalidFile) kV_InvalidFile dc_InvalidFile pm_InvalidFile an_InvalidFile (.ref cda_InvalidFile) ct_InvalidFile cc_InvalidFile), sl_InvalidFile⟩)
    (ld_InvalidFile : K.lookup T_InvalidFile = some ⟨ocT_InvalidFile, odT_InvalidFile, .seq #[.none] nT_InvalidFile, slT_InvalidFile⟩)
    (cd_InvalidFile : PySem.W.codeIn K (.ref cda_InvalidFile) "InvalidFile.__init__" = true)
    (cr_InvalidFile : K.lookup cda_InvalidFile = some ⟨ccl_InvalidFile, cdd_InvalidFile, .fields vs_InvalidFile, ccs_InvalidFile⟩)
    (v2_InvalidFile : vs_InvalidFile[2]? = some (.str file_InvalidFile tf_InvalidFile))
    (fl_InvalidFile : ((PySem.Challenge.rw_keptholes_k40_arguments_by_name.prog.main.file : Str) == file_InvalidFile) = true)
    (clc_InvalidFile : K.lookup cc_InvalidFile = some ⟨cl_InvalidFile, cld_InvalidFile, .cell (some (.ref C_InvalidFile)), csl_InvalidFile⟩)
    (al_InvalidFile : PySem.W.ks_superIn K C_InvalidFile C_InvalidFile "__init__" = some (some (.builtin "ValueError.__init__")))
    (sV_InvalidFile : PySem.W.subIn K (.ref C_InvalidFile) (.type "ValueError") = some true)
    (eC_InvalidFile : PySem.W.subIn K (.ref C_InvalidFile) (.type "BaseException") = some true)
    (sC_InvalidFile : PySem.W.mroIn K C_InvalidFile (.ref C_InvalidFile) = some true)
    (kC_InvalidFile : PySem.W.keepIn K (.ref C_InvalidFile) = true)
    (tC_InvalidFile : PySem.W.typeIn K (.ref C_InvalidFile) = some (.type "type"))
    (ac_InvalidNumber : PySem.W.nsIn K mainGlobals "InvalidNumber" = some (some (.ref C_InvalidNumber)))
    (xL_InvalidNumber : K.lookup C_InvalidNumber = some (excClassObj nm_InvalidNumber q_InvalidNumber C_InvalidNumber NN_InvalidNumber bs_InvalidNumber [.ref C_HoleError, .type "ValueError", .type "Exception", .type "BaseException", .type "object"] true sn_InvalidNumber sub_InvalidNumber ab_InvalidNumber col_InvalidNumber dd_InvalidNumber m0_InvalidNumber m1_InvalidNumber m2_InvalidNumber m3_InvalidNumber m5_InvalidNumber "ValueError.__new__"))
    (sa_InvalidNumber : PySem.W.findIn K (.ref C_InvalidNumber) "__setattr__" = some (some (.builtin "object.__setattr__")))
    (nb_InvalidNumber : PySem.W.findIn K (.ref C_InvalidNumber) "value" = some none)
    (i_InvalidNumber : PySem.W.findIn K (.ref C_InvalidNumber) "__init__" = some (some (.ref I_InvalidNumber)))
    (t_InvalidNumber : PySem.W.typeIn K (.ref I_InvalidNumber) = some (.type "function"))
    (l_InvalidNumber : K.lookup I_InvalidNumber = some ⟨oc_InvalidNumber, od_InvalidNumber, .func (ksFn "__init__" "InvalidNumber.__init__" (defArgs si_InvalidNumber) (defBody si_InvalidNumber) (defScope si_InvalidNumber) (.ref T_InvalidNumber) kV_InvalidNumber dc_InvalidNumber pm_InvalidNumber an_InvalidNumber (.ref cda_InvalidNumber) ct_InvalidNumber cc_InvalidNumber), sl_InvalidNumber⟩)
    (ld_InvalidNumber : K.lookup T_InvalidNumber = some ⟨ocT_InvalidNumber, odT_InvalidNumber, .seq #[.none] nT_InvalidNumber, slT_InvalidNumber⟩)
    (cd_InvalidNumber : PySem.W.codeIn K (.ref cda_InvalidNumber) "InvalidNumber.__init__" = true)
    (cr_InvalidNumber : K.lookup cda_InvalidNumber = some ⟨ccl_InvalidNumber, cdd_InvalidNumber, .fields vs_InvalidNumber, ccs_InvalidNumber⟩)
    (v2_InvalidNumber : vs_InvalidNumber[2]? = some (.str file_InvalidNumber tf_InvalidNumber))
    (fl_InvalidNumber : ((PySem.Challenge.rw_keptholes_k40_arguments_by_name.prog.main.file : Str) == file_InvalidNumber) = true)
    (clc_InvalidNumber : K.lookup cc_InvalidNumber = some ⟨cl_InvalidNumber, cld_InvalidNumber, .cell (some (.ref C_InvalidNumber)), csl_InvalidNumber⟩)
    (al_InvalidNumber : PySem.W.ks_superIn K C_InvalidNumber C_InvalidNumber "__init__" = some (some (.builtin "ValueError.__init__")))
    (sV_InvalidNumber : PySem.W.subIn K (.ref C_InvalidNumber) (.type "ValueError") = some true)
    (eC_InvalidNumber : PySem.W.subIn K (.ref C_InvalidNumber) (.type "BaseException") = some true)
    (sC_InvalidNumber : PySem.W.mroIn K C_InvalidNumber (.ref C_InvalidNumber) = some true)
    (kC_InvalidNumber : PySem.W.keepIn K (.ref C_InvalidNumber) = true)
    (tC_InvalidNumber : PySem.W.typeIn K (.ref C_InvalidNumber) = some (.type "type"))
    (ac_InvalidScript : PySem.W.nsIn K mainGlobals "InvalidScript" = some (some (.ref C_InvalidScript)))
    (ac_InvalidList : PySem.W.nsIn K mainGlobals "InvalidList" = some (some (.ref C_InvalidList)))
    (xL_InvalidList : K.lookup C_InvalidList = some (excClassObj nm_InvalidList q_InvalidList C_InvalidList NN_InvalidList bs_InvalidList [.ref C_HoleError, .type "ValueError", .type "Exception", .type "BaseException", .type "object"] true sn_InvalidList sub_InvalidList ab_InvalidList col_InvalidList dd_InvalidList m0_InvalidList m1_InvalidList m2_InvalidList m3_InvalidList m5_InvalidList "ValueError.__new__"))
    (sa_InvalidList : PySem.W.findIn K (.ref C_InvalidList) "__setattr__" = some (some (.builtin "object.__setattr__")))
    (nb_InvalidList : PySem.W.findIn K (.ref C_InvalidList) "value" = some none)
    (i_InvalidList : PySem.W.findIn K (.ref C_InvalidList) "__init__" = some (some (.ref I_InvalidList)))
    (t_InvalidList : PySem.W.typeIn K (.ref I_InvalidList) = some (.type "function"))
    (l_InvalidList : K.lookup I_InvalidList = some ⟨oc_InvalidList, od_InvalidList, .func (ksFn "__init__" "InvalidList.__init__" (defArgs si_InvalidList) (defBody si_InvalidList) (defScope si_InvalidList) (.ref T_InvalidList) kV_InvalidList dc_InvalidList pm_InvalidList an_InvalidList (.ref cda_InvalidList) ct_InvalidList cc_InvalidList), sl_InvalidList⟩)
    (ld_InvalidList : K.lookup T_InvalidList = some ⟨ocT_InvalidList, odT_InvalidList, .seq #[.none] nT_InvalidList, slT_InvalidList⟩)
    (cd_InvalidList : PySem.W.codeIn K (.ref cda_InvalidList) "InvalidList.__init__" = true)
    (cr_InvalidList : K.lookup cda_InvalidList = some ⟨ccl_InvalidList, cdd_InvalidList, .fields vs_InvalidList, ccs_InvalidList⟩)
    (v2_InvalidList : vs_InvalidList[2]? = some (.str file_InvalidList tf_InvalidList))
    (fl_InvalidList : ((PySem.Challenge.rw_keptholes_k40_arguments_by_name.prog.main.file : Str) == file_InvalidList) = true)
    (clc_InvalidList : K.lookup cc_InvalidList = some ⟨cl_InvalidList, cld_InvalidList, .cell (some (.ref C_InvalidList)), csl_InvalidList⟩)
    (al_InvalidList : PySem.W.ks_superIn K C_InvalidList C_InvalidList "__init__" = some (some (.builtin "ValueError.__init__")))
    (sV_InvalidList : PySem.W.subIn K (.ref C_InvalidList) (.type "ValueError") = some true)
    (eC_InvalidList : PySem.W.subIn K (.ref C_InvalidList) (.type "BaseException") = some true)
    (sC_InvalidList : PySem.W.mroIn K C_InvalidList (.ref C_InvalidList) = some true)
    (kC_InvalidList : PySem.W.keepIn K (.ref C_InvalidList) = true)
    (tC_InvalidList : PySem.W.typeIn K (.ref C_InvalidList) = some (.type "type")) :
    ∃ fd : FuncData, (∀ (s : Shared) (v : Value), BindsTo s fd ⟨[v], []⟩ [("script", v)]) ∧ ∀ base : Heap, K.In base → base.Ns mainGlobals mg → FnOk PySem.Challenge.rw_keptholes_k40_arguments_by_name.prog w K mg base CX0 14 fa fd ["script"] (toSp K spLaw) := by
  have e := hfa.symm.trans (PySem.W.mg_of X G a_law)
  have e2 : f_law = fa := by injection e with e; injection e with e; exact e.symm
  subst e2
  let R : Prg K mg := {
    n_bool := (PySem.W.mg_none_of X G z_bool)
    n_enumerate := (PySem.W.mg_none_of X G z_enumerate)
    n_int := (PySem.W.mg_none_of X G z_int)
    n_isinstance := (PySem.W.mg_none_of X G z_isinstance)
    n_iter := (PySem.W.mg_none_of X G z_iter)
    n_len := (PySem.W.mg_none_of X G z_len)
    n_list := (PySem.W.mg_none_of X G z_list)
    n_max := (PySem.W.mg_none_of X G z_max)
    n_min := (PySem.W.mg_none_of X G z_min)
    n_range := (PySem.W.mg_none_of X G z_range)
    n_set := (PySem.W.mg_none_of X G z_set)
    n_sorted := (PySem.W.mg_none_of X G z_sorted)
    n_str := (PySem.W.mg_none_of X G z_str)
    n_sum := (PySem.W.mg_none_of X G z_sum)
    n_super := (PySem.W.mg_none_of X G z_super)
    n_tuple := (PySem.W.mg_none_of X G z_tuple)
    tg_SIGNS := (tg_SIGNS)
    g_SIGNS := (PySem.W.mg_of X G g_SIGNS)
    C_File := (C_File)
    mc_File := (PySem.W.mg_of X G ac_File)
    C_Step := (C_Step)
    mc_Step := (PySem.W.mg_of X G ac_Step)
    C_Full := (C_Full)
    mc_Full := (PySem.W.mg_of X G ac_Full)
    C_Keep := (C_Keep)
    mc_Keep := (PySem.W.mg_of X G ac_Keep)
    C_Lean := (C_Lean)
    mc_Lean := (PySem.W.mg_of X G ac_Lean)
    C_Dig := (C_Dig)
    mc_Dig := (PySem.W.mg_of X G ac_Dig)
    C_Script := (C_Script)
    mc_Script := (PySem.W.mg_of X G ac_Script)
    f_is_whole := (f_is_whole)
    d_is_whole := (PySem.W.fnOf "is_whole" "is_whole" (defArgs s_is_whole) (defBody s_is_whole) (defScope s_is_whole) .none kV_is_whole dc_is_whole pm_is_whole an_is_whole cd_is_whole ct_is_whole)
    F_is_whole := (fun_mk (st := s_is_whole) l_is_whole c_is_whole k_is_whole)
    b_is_whole := ((fun_mk (st := s_is_whole) l_is_whole c_is_whole k_is_whole).binds (ps := P_is_whole) fun _ _ _ _ _ _ us hl => match us, hl with | [_], _ => rfl)
    m_is_whole := (PySem.W.mg_of X G a_is_whole)
    f_check_least := (f_check_least)
    d_check_least := (PySem.W.fnOf "check_least" "check_least" (defArgs s_check_least) (defBody s_check_least) (defScope s_check_least) .none kV_check_least dc_check_least pm_check_least an_check_least cd_check_least ct_check_least)
    F_check_least := (fun_mk (st := s_check_least) l_check_least c_check_least k_check_least)
    b_check_least := ((fun_mk (st := s_check_least) l_check_least c_check_least k_check_least).binds (ps := P_check_least) fun _ _ _ _ _ _ us hl => match us, hl with | [_, _], _ => rfl)
    m_check_least := (PySem.W.mg_of X G a_check_least)
    f_check_within := (f_check_within)
    d_check_within := (PySem.W.fnOf "check_within" "check_within" (defArgs s_check_within) (defBody s_check_within) (defScope s_check_within) .none kV_check_within dc_check_within pm_check_within an_check_within cd_check_within ct_check_within)
    F_check_within := (fun_mk (st := s_check_within) l_check_within c_check_within k_check_within)
    b_check_within := ((fun_mk (st := s_check_within) l_check_within c_check_within k_check_within).binds (ps := P_check_within) fun _ _ _ _ _ _ us hl => match us, hl with | [_, _, _], _ => rfl)
    m_check_within := (PySem.W.mg_of X G a_check_within)
    f_divisor_of := (f_divisor_of)
    d_divisor_of := (PySem.W.fnOf "divisor_of" "divisor_of" (defArgs s_divisor_of) (defBody s_divisor_of) (defScope s_divisor_of) .none kV_divisor_of dc_divisor_of pm_divisor_of an_divisor_of cd_divisor_of ct_divisor_of)
    F_divisor_of := (fun_mk (st := s_divisor_of) l_divisor_of c_divisor_of k_divisor_of)
    b_divisor_of := ((fun_mk (st := s_divisor_of) l_divisor_of c_divisor_of k_divisor_of).binds (ps := P_divisor_of) fun _ _ _ _ _ _ us hl => match us, hl with | [_, _], _ => rfl)
    m_divisor_of := (PySem.W.mg_of X G a_divisor_of)
    f_multiple_of := (f_multiple_of)
    d_multiple_of := (PySem.W.fnOf "multiple_of" "multiple_of" (defArgs s_multiple_of) (defBody s_multiple_of) (defScope s_multiple_of) .none kV_multiple_of dc_multiple_of pm_multiple_of an_multiple_of cd_multiple_of ct_multiple_of)
    F_multiple_of := (fun_mk (st := s_multiple_of) l_multiple_of c_multiple_of k_multiple_of)
    b_multiple_of := ((fun_mk (st := s_multiple_of) l_multiple_of c_multiple_of k_multiple_of).binds (ps := P_multiple_of) fun _ _ _ _ _ _ us hl => match us, hl with | [_], _ => rfl)
    m_multiple_of := (PySem.W.mg_of X G a_multiple_of)
    f_are_sizes := (f_are_sizes)
    d_are_sizes := (PySem.W.fnOf "are_sizes" "are_sizes" (defArgs s_are_sizes) (defBody s_are_sizes) (defScope s_are_sizes) .none kV_are_sizes dc_are_sizes pm_are_sizes an_are_sizes cd_are_sizes ct_are_sizes)
    F_are_sizes := (fun_mk (st := s_are_sizes) l_are_sizes c_are_sizes k_are_sizes)
    b_are_sizes := ((fun_mk (st := s_are_sizes) l_are_sizes c_are_sizes k_are_sizes).binds (ps := P_are_sizes) fun _ _ _ _ _ _ us hl => match us, hl with | [_], _ => rfl)
    m_are_sizes := (PySem.W.mg_of X G a_are_sizes)
    f_widened := (f_widened)
    d_widened := (PySem.W.fnOf "widened" "widened" (defArgs s_widened) (defBody s_widened) (defScope s_widened) .none kV_widened dc_widened pm_widened an_widened cd_widened ct_widened)
    F_widened := (fun_mk (st := s_widened) l_widened c_widened k_widened)
    b_widened := ((fun_mk (st := s_widened) l_widened c_widened k_widened).binds (ps := P_widened) fun _ _ _ _ _ _ us hl => match us, hl with | [_, _], _ => rfl)
    m_widened := (PySem.W.mg_of X G a_widened)
    f_spread := (f_spread)
    d_spread := (PySem.W.fnOf "spread" "spread" (defArgs s_spread) (defBody s_spread) (defScope s_spread) .none kV_spread dc_spread pm_spread an_spread cd_spread ct_spread)
    F_spread := (fun_mk (st := s_spread) l_spread c_spread k_spread)
    b_spread := ((fun_mk (st := s_spread) l_spread c_spread k_spread).binds (ps := P_spread) fun _ _ _ _ _ _ us hl => match us, hl with | [_, _], _ => rfl)
    kb_spread_0_cell_sizes := (⟨fun s us ws X h1 h2 => match us, h1, ws, h2 with | [], _, [_, _], _ => BindsTo.of_eq rfl, okc (trivial) (okc (trivial) (okn))⟩)
    m_spread := (PySem.W.mg_of X G a_spread)
    f_rounds_spread := (f_rounds_spread)
    d_rounds_spread := (PySem.W.fnOf "rounds_spread" "rounds_spread" (defArgs s_rounds_spread) (defBody s_rounds_spread) (defScope s_rounds_spread) .none kV_rounds_spread dc_rounds_spread pm_rounds_spread an_rounds_spread cd_rounds_spread ct_rounds_spread)
    F_rounds_spread := (fun_mk (st := s_rounds_spread) l_rounds_spread c_rounds_spread k_rounds_spread)
    b_rounds_spread := ((fun_mk (st := s_rounds_spread) l_rounds_spread c_rounds_spread k_rounds_spread).binds (ps := P_rounds_spread) fun _ _ _ _ _ _ us hl => match us, hl with | [_, _, _, _], _ => rfl)
    kb_rounds_spread_0_cell_rounds_other_one := (⟨fun s us ws X h1 h2 => match us, h1, ws, h2 with | [], _, [_, _, _, _], _ => BindsTo.of_eq rfl, okc (trivial) (okc (trivial) (okc (trivial) (okc (trivial) (okn))))⟩)
    m_rounds_spread := (PySem.W.mg_of X G a_rounds_spread)
    f_settles := (f_settles)
    d_settles := (PySem.W.fnOf "settles" "settles" (defArgs s_settles) (defBody s_settles) (defScope s_settles) .none kV_settles dc_settles pm_settles an_settles cd_settles ct_settles)
    F_settles := (fun_mk (st := s_settles) l_settles c_settles k_settles)
    b_settles := ((fun_mk (st := s_settles) l_settles c_settles k_settles).binds (ps := P_settles) fun _ _ _ _ _ _ us hl => match us, hl with | [_, _], _ => rfl)
    kb_settles_0_other_one := (⟨fun s us ws X h1 h2 => match us, h1, ws, h2 with | [], _, [_, _], _ => BindsTo.of_eq rfl, okc (trivial) (okc (trivial) (okn))⟩)
    m_settles := (PySem.W.mg_of X G a_settles)
    f_are_cells := (f_are_cells)
    d_are_cells := (PySem.W.fnOf "are_cells" "are_cells" (defArgs s_are_cells) (defBody s_are_cells) (defScope s_are_cells) .none kV_are_cells dc_are_cells pm_are_cells an_are_cells cd_are_cells ct_are_cells)
    F_are_cells := (fun_mk (st := s_are_cells) l_are_cells c_are_cells k_are_cells)
    b_are_cells := ((fun_mk (st := s_are_cells) l_are_cells c_are_cells k_are_cells).binds (ps := P_are_cells) fun _ _ _ _ _ _ us hl => match us, hl with | [_], _ => rfl)
    m_are_cells := (PySem.W.mg_of X G a_are_cells)
    f_punched_cell := (f_punched_cell)
    d_punched_cell := (PySem.W.fnOf "punched_cell" "punched_cell" (defArgs s_punched_cell) (defBody s_punched_cell) (defScope s_punched_cell) .none kV_punched_cell dc_punched_cell pm_punched_cell an_punched_cell cd_punched_cell ct_punched_cell)
    F_punched_cell := (fun_mk (st := s_punched_cell) l_punched_cell c_punched_cell k_punched_cell)
    b_punched_cell := ((fun_mk (st := s_punched_cell) l_punched_cell c_punched_cell k_punched_cell).binds (ps := P_punched_cell) fun _ _ _ _ _ _ us hl => match us, hl with | [_, _, _, _, _], _ => rfl)
    m_punched_cell := (PySem.W.mg_of X G a_punched_cell)
    f_check_file := (f_check_file)
    d_check_file := (PySem.W.fnOf "check_file" "check_file" (defArgs s_check_file) (defBody s_check_file) (defScope s_check_file) .none kV_check_file dc_check_file pm_check_file an_check_file cd_check_file ct_check_file)
    F_check_file := (fun_mk (st := s_check_file) l_check_file c_check_file k_check_file)
    b_check_file := ((fun_mk (st := s_check_file) l_check_file c_check_file k_check_file).binds (ps := P_check_file) fun _ _ _ _ _ _ us hl => match us, hl with | [_], _ => rfl)
    m_check_file := (PySem.W.mg_of X G a_check_file)
    f_blocks_of := (f_blocks_of)
    d_blocks_of := (PySem.W.fnOf "blocks_of" "blocks_of" (defArgs s_blocks_of) (defBody s_blocks_of) (defScope s_blocks_of) .none kV_blocks_of dc_blocks_of pm_blocks_of an_blocks_of cd_blocks_of ct_blocks_of)
    F_blocks_of := (fun_mk (st := s_blocks_of) l_blocks_of c_blocks_of k_blocks_of)
    b_blocks_of := ((fun_mk (st := s_blocks_of) l_blocks_of c_blocks_of k_blocks_of).binds (ps := P_blocks_of) fun _ _ _ _ _ _ us hl => match us, hl with | [_, _], _ => rfl)
    m_blocks_of := (PySem.W.mg_of X G a_blocks_of)
    f_filled := (f_filled)
    d_filled := (PySem.W.fnOf "filled" "filled" (defArgs s_filled) (defBody s_filled) (defScope s_filled) .none kV_filled dc_filled pm_filled an_filled cd_filled ct_filled)
    F_filled := (fun_mk (st := s_filled) l_filled c_filled k_filled)
    b_filled := ((fun_mk (st := s_filled) l_filled c_filled k_filled).binds (ps := P_filled) fun _ _ _ _ _ _ us hl => match us, hl with | [_], _ => rfl)
    m_filled := (PySem.W.mg_of X G a_filled)
    f_has_sign := (f_has_sign)
    d_has_sign := (PySem.W.fnOf "has_sign" "has_sign" (defArgs s_has_sign) (defBody s_has_sign) (defScope s_has_sign) .none kV_has_sign dc_has_sign pm_has_sign an_has_sign cd_has_sign ct_has_sign)
    F_has_sign := (fun_mk (st := s_has_sign) l_has_sign c_has_sign k_has_sign)
    b_has_sign := ((fun_mk (st := s_has_sign) l_has_sign c_has_sign k_has_sign).binds (ps := P_has_sign) fun _ _ _ _ _ _ us hl => match us, hl with | [_], _ => rfl)
    m_has_sign := (PySem.W.mg_of X G a_has_sign)
    f_are_steps := (f_are_steps)
    d_are_steps := (PySem.W.fnOf "are_steps" "are_steps" (defArgs s_are_steps) (defBody s_are_steps) (defScope s_are_steps) .none kV_are_steps dc_are_steps pm_are_steps an_are_steps cd_are_steps ct_are_steps)
    F_are_steps := (fun_mk (st := s_are_steps) l_are_steps c_are_steps k_are_steps)
    b_are_steps := ((fun_mk (st := s_are_steps) l_are_steps c_are_steps k_are_steps).binds (ps := P_are_steps) fun _ _ _ _ _ _ us hl => match us, hl with | [_], _ => rfl)
    m_are_steps := (PySem.W.mg_of X G a_are_steps)
    f_check_script := (f_check_script)
    d_check_script := (PySem.W.fnOf "check_script" "check_script" (defArgs s_check_script) (defBody s_check_script) (defScope s_check_script) .none kV_check_script dc_check_script pm_check_script an_check_script cd_check_script ct_check_script)
    F_check_script := (fun_mk (st := s_check_script) l_check_script c_check_script k_check_script)
    b_check_script := ((fun_mk (st := s_check_script) l_check_script c_check_script k_check_script).binds (ps := P_check_script) fun _ _ _ _ _ _ us hl => match us, hl with | [_], _ => rfl)
    m_check_script := (PySem.W.mg_of X G a_check_script)
    f_holds_in := (f_holds_in)
    d_holds_in := (PySem.W.fnOf "holds_in" "holds_in" (defArgs s_holds_in) (defBody s_holds_in) (defScope s_holds_in) .none kV_holds_in dc_holds_in pm_holds_in an_holds_in cd_holds_in ct_holds_in)
    F_holds_in := (fun_mk (st := s_holds_in) l_holds_in c_holds_in k_holds_in)
    b_holds_in := ((fun_mk (st := s_holds_in) l_holds_in c_holds_in k_holds_in).binds (ps := P_holds_in) fun _ _ _ _ _ _ us hl => match us, hl with | [_, _], _ => rfl)
    m_holds_in := (PySem.W.mg_of X G a_holds_in)
    f_is_held := (f_is_held)
    d_is_held := (PySem.W.fnOf "is_held" "is_held" (defArgs s_is_held) (defBody s_is_held) (defScope s_is_held) .none kV_is_held dc_is_held pm_is_held an_is_held cd_is_held ct_is_held)
    F_is_held := (fun_mk (st := s_is_held) l_is_held c_is_held k_is_held)
    b_is_held := ((fun_mk (st := s_is_held) l_is_held c_is_held k_is_held).binds (ps := P_is_held) fun _ _ _ _ _ _ us hl => match us, hl with | [_, _], _ => rfl)
    m_is_held := (PySem.W.mg_of X G a_is_held)
    f_least_of := (f_least_of)
    d_least_of := (PySem.W.fnOf "least_of" "least_of" (defArgs s_least_of) (defBody s_least_of) (defScope s_least_of) .none kV_least_of dc_least_of pm_least_of an_least_of cd_least_of ct_least_of)
    F_least_of := (fun_mk (st := s_least_of) l_least_of c_least_of k_least_of)
    b_least_of := ((fun_mk (st := s_least_of) l_least_of c_least_of k_least_of).binds (ps := P_least_of) fun _ _ _ _ _ _ us hl => match us, hl with | [_], _ => rfl)
    m_least_of := (PySem.W.mg_of X G a_least_of)
    f_dug := (f_dug)
    d_dug := (PySem.W.fnOf "dug" "dug" (defArgs s_dug) (defBody s_dug) (defScope s_dug) .none kV_dug dc_dug pm_dug an_dug cd_dug ct_dug)
    F_dug := (fun_mk (st := s_dug) l_dug c_dug k_dug)
    b_dug := ((fun_mk (st := s_dug) l_dug c_dug k_dug).binds (ps := P_dug) fun _ _ _ _ _ _ us hl => match us, hl with | [_, _], _ => rfl)
    m_dug := (PySem.W.mg_of X G a_dug)
    f_behind_step := (f_behind_step)
    d_behind_step := (PySem.W.fnOf "behind_step" "behind_step" (defArgs s_behind_step) (defBody s_behind_step) (defScope s_behind_step) .none kV_behind_step dc_behind_step pm_behind_step an_behind_step cd_behind_step ct_behind_step)
    F_behind_step := (fun_mk (st := s_behind_step) l_behind_step c_behind_step k_behind_step)
    b_behind_step := ((fun_mk (st := s_behind_step) l_behind_step c_behind_step k_behind_step).binds (ps := P_behind_step) fun _ _ _ _ _ _ us hl => match us, hl with | [_, _], _ => rfl)
    m_behind_step := (PySem.W.mg_of X G a_behind_step)
    f_reason_table := (f_reason_table)
    d_reason_table := (PySem.W.fnOf "reason_table" "reason_table" (defArgs s_reason_table) (defBody s_reason_table) (defScope s_reason_table) .none kV_reason_table dc_reason_table pm_reason_table an_reason_table cd_reason_table ct_reason_table)
    F_reason_table := (fun_mk (st := s_reason_table) l_reason_table c_reason_table k_reason_table)
    b_reason_table := ((fun_mk (st := s_reason_table) l_reason_table c_reason_table k_reason_table).binds (ps := P_reason_table) fun _ _ _ _ _ _ us hl => match us, hl with | [_], _ => rfl)
    m_reason_table := (PySem.W.mg_of X G a_reason_table)
    f_cells_of := (f_cells_of)
    d_cells_of := (PySem.W.fnOf "cells_of" "cells_of" (defArgs s_cells_of) (defBody s_cells_of) (defScope s_cells_of) .none kV_cells_of dc_cells_of pm_cells_of an_cells_of cd_cells_of ct_cells_of)
    F_cells_of := (fun_mk (st := s_cells_of) l_cells_of c_cells_of k_cells_of)
    b_cells_of := ((fun_mk (st := s_cells_of) l_cells_of c_cells_of k_cells_of).binds (ps := P_cells_of) fun _ _ _ _ _ _ us hl => match us, hl with | [_, _, _], _ => rfl)
    m_cells_of := (PySem.W.mg_of X G a_cells_of)
    f_reasons := (f_reasons)
    d_reasons := (PySem.W.fnOf "reasons" "reasons" (defArgs s_reasons) (defBody s_reasons) (defScope s_reasons) .none kV_reasons dc_reasons pm_reasons an_reasons cd_reasons ct_reasons)
    F_reasons := (fun_mk (st := s_reasons) l_reasons c_reasons k_reasons)
    b_reasons := ((fun_mk (st := s_reasons) l_reasons c_reasons k_reasons).binds (ps := P_reasons) fun _ _ _ _ _ _ us hl => match us, hl with | [_, _], _ => rfl)
    kb_reasons_1_cell := (⟨fun s us ws X h1 h2 => match us, h1, ws, h2 with | [_], _, [_], _ => BindsTo.of_eq rfl, okc (trivial) (okc (trivial) (okn))⟩)
    m_reasons := (PySem.W.mg_of X G a_reasons)
    f_moved_table := (f_moved_table)
    d_moved_table := (PySem.W.fnOf "moved_table" "moved_table" (defArgs s_moved_table) (defBody s_moved_table) (defScope s_moved_table) .none kV_moved_table dc_moved_table pm_moved_table an_moved_table cd_moved_table ct_moved_table)
    F_moved_table := (fun_mk (st := s_moved_table) l_moved_table c_moved_table k_moved_table)
    b_moved_table := ((fun_mk (st := s_moved_table) l_moved_table c_moved_table k_moved_table).binds (ps := P_moved_table) fun _ _ _ _ _ _ us hl => match us, hl with | [_, _], _ => rfl)
    m_moved_table := (PySem.W.mg_of X G a_moved_table)
    f_put_down := (f_put_down)
    d_put_down := (PySem.W.fnOf "put_down" "put_down" (defArgs s_put_down) (defBody s_put_down) (defScope s_put_down) .none kV_put_down dc_put_down pm_put_down an_put_down cd_put_down ct_put_down)
    F_put_down := (fun_mk (st := s_put_down) l_put_down c_put_down k_put_down)
    b_put_down := ((fun_mk (st := s_put_down) l_put_down c_put_down k_put_down).binds (ps := P_put_down) fun _ _ _ _ _ _ us hl => match us, hl with | [_, _, _], _ => rfl)
    m_put_down := (PySem.W.mg_of X G a_put_down)
    f_more_of := (f_more_of)
    d_more_of := (PySem.W.fnOf "more_of" "more_of" (defArgs s_more_of) (defBody s_more_of) (defScope s_more_of) .none kV_more_of dc_more_of pm_more_of an_more_of cd_more_of ct_more_of)
    F_more_of := (fun_mk (st := s_more_of) l_more_of c_more_of k_more_of)
    b_more_of := ((fun_mk (st := s_more_of) l_more_of c_more_of k_more_of).binds (ps := P_more_of) fun _ _ _ _ _ _ us hl => match us, hl with | [_, _], _ => rfl)
    m_more_of := (PySem.W.mg_of X G a_more_of)
    f_check_two := (f_check_two)
    d_check_two := (PySem.W.fnOf "check_two" "check_two" (defArgs s_check_two) (defBody s_check_two) (defScope s_check_two) .none kV_check_two dc_check_two pm_check_two an_check_two cd_check_two ct_check_two)
    F_check_two := (fun_mk (st := s_check_two) l_check_two c_check_two k_check_two)
    b_check_two := ((fun_mk (st := s_check_two) l_check_two c_check_two k_check_two).binds (ps := P_check_two) fun _ _ _ _ _ _ us hl => match us, hl with | [_, _], _ => rfl)
    m_check_two := (PySem.W.mg_of X G a_check_two)
    f_more_file := (f_more_file)
    d_more_file := (PySem.W.fnOf "more_file" "more_file" (defArgs s_more_file) (defBody s_more_file) (defScope s_more_file) .none kV_more_file dc_more_file pm_more_file an_more_file cd_more_file ct_more_file)
    F_more_file := (fun_mk (st := s_more_file) l_more_file c_more_file k_more_file)
    b_more_file := ((fun_mk (st := s_more_file) l_more_file c_more_file k_more_file).binds (ps := P_more_file) fun _ _ _ _ _ _ us hl => match us, hl with | [_, _], _ => rfl)
    kb_more_file_0_other_one := (⟨fun s us ws X h1 h2 => match us, h1, ws, h2 with | [], _, [_, _], _ => BindsTo.of_eq rfl, okc (trivial) (okc (trivial) (okn))⟩)
    m_more_file := (PySem.W.mg_of X G a_more_file)
    f_never_more := (f_never_more)
    d_never_more := (PySem.W.fnOf "never_more" "never_more" (defArgs s_never_more) (defBody s_never_more) (defScope s_never_more) .none kV_never_more dc_never_more pm_never_more an_never_more cd_never_more ct_never_more)
    F_never_more := (fun_mk (st := s_never_more) l_never_more c_never_more k_never_more)
    b_never_more := ((fun_mk (st := s_never_more) l_never_more c_never_more k_never_more).binds (ps := P_never_more) fun _ _ _ _ _ _ us hl => match us, hl with | [_, _], _ => rfl)
    kb_never_more_0_other_one := (⟨fun s us ws X h1 h2 => match us, h1, ws, h2 with | [], _, [_, _], _ => BindsTo.of_eq rfl, okc (trivial) (okc (trivial) (okn))⟩)
    m_never_more := (PySem.W.mg_of X G a_never_more)
    f_parting_of := (f_parting_of)
    d_parting_of := (PySem.W.fnOf "parting_of" "parting_of" (defArgs s_parting_of) (defBody s_parting_of) (defScope s_parting_of) .none kV_parting_of dc_parting_of pm_parting_of an_parting_of cd_parting_of ct_parting_of)
    F_parting_of := (fun_mk (st := s_parting_of) l_parting_of c_parting_of k_parting_of)
    b_parting_of := ((fun_mk (st := s_parting_of) l_parting_of c_parting_of k_parting_of).binds (ps := P_parting_of) fun _ _ _ _ _ _ us hl => match us, hl with | [_, _], _ => rfl)
    m_parting_of := (PySem.W.mg_of X G a_parting_of)
    f_parting := (f_parting)
    d_parting := (PySem.W.fnOf "parting" "parting" (defArgs s_parting) (defBody s_parting) (defScope s_parting) .none kV_parting dc_parting pm_parting an_parting cd_parting ct_parting)
    F_parting := (fun_mk (st := s_parting) l_parting c_parting k_parting)
    b_parting := ((fun_mk (st := s_parting) l_parting c_parting k_parting).binds (ps := P_parting) fun _ _ _ _ _ _ us hl => match us, hl with | [_, _], _ => rfl)
    kb_parting_0_other_one := (⟨fun s us ws X h1 h2 => match us, h1, ws, h2 with | [], _, [_, _], _ => BindsTo.of_eq rfl, okc (trivial) (okc (trivial) (okn))⟩)
    m_parting := (PySem.W.mg_of X G a_parting)
    f_alike := (f_alike)
    d_alike := (PySem.W.fnOf "alike" "alike" (defArgs s_alike) (defBody s_alike) (defScope s_alike) .none kV_alike dc_alike pm_alike an_alike cd_alike ct_alike)
    F_alike := (fun_mk (st := s_alike) l_alike c_alike k_alike)
    b_alike := ((fun_mk (st := s_alike) l_alike c_alike k_alike).binds (ps := P_alike) fun _ _ _ _ _ _ us hl => match us, hl with | [_, _], _ => rfl)
    kb_alike_0_other_one := (⟨fun s us ws X h1 h2 => match us, h1, ws, h2 with | [], _, [_, _], _ => BindsTo.of_eq rfl, okc (trivial) (okc (trivial) (okn))⟩)
    m_alike := (PySem.W.mg_of X G a_alike)
    f_exchangeable := (f_exchangeable)
    d_exchangeable := (PySem.W.fnOf "exchangeable" "exchangeable" (defArgs s_exchangeable) (defBody s_exchangeable) (defScope s_exchangeable) .none kV_exchangeable dc_exchangeable pm_exchangeable an_exchangeable cd_exchangeable ct_exchangeable)
    F_exchangeable := (fun_mk (st := s_exchangeable) l_exchangeable c_exchangeable k_exchangeable)
    b_exchangeable := ((fun_mk (st := s_exchangeable) l_exchangeable c_exchangeable k_exchangeable).binds (ps := P_exchangeable) fun _ _ _ _ _ _ us hl => match us, hl with | [_, _], _ => rfl)
    kb_exchangeable_0_other_one := (⟨fun s us ws X h1 h2 => match us, h1, ws, h2 with | [], _, [_, _], _ => BindsTo.of_eq rfl, okc (trivial) (okc (trivial) (okn))⟩)
    m_exchangeable := (PySem.W.mg_of X G a_exchangeable)
    f_law_files_right := (f_law_files_right)
    d_law_files_right := (PySem.W.fnOf "_law_files_right" "_law_files_right" (defArgs s_law_files_right) (defBody s_law_files_right) (defScope s_law_files_right) .none kV_law_files_right dc_law_files_right pm_law_files_right an_law_files_right cd_law_files_right ct_law_files_right)
    F_law_files_right := (fun_mk (st := s_law_files_right) l_law_files_right c_law_files_right k_law_files_right)
    b_law_files_right := ((fun_mk (st := s_law_files_right) l_law_files_right c_law_files_right k_law_files_right).binds (ps := P_law_files_right) fun _ _ _ _ _ _ us hl => match us, hl with | [_, _, _], _ => rfl)
    m_law_files_right := (PySem.W.mg_of X G a_law_files_right)
    f_law_rest_right := (f_law_rest_right)
    d_law_rest_right := (PySem.W.fnOf "_law_rest_right" "_law_rest_right" (defArgs s_law_rest_right) (defBody s_law_rest_right) (defScope s_law_rest_right) .none kV_law_rest_right dc_law_rest_right pm_law_rest_right an_law_rest_right cd_law_rest_right ct_law_rest_right)
    F_law_rest_right := (fun_mk (st := s_law_rest_right) l_law_rest_right c_law_rest_right k_law_rest_right)
    b_law_rest_right := ((fun_mk (st := s_law_rest_right) l_law_rest_right c_law_rest_right k_law_rest_right).binds (ps := P_law_rest_right) fun _ _ _ _ _ _ us hl => match us, hl with | [_, _, _, _], _ => rfl)
    m_law_rest_right := (PySem.W.mg_of X G a_law_rest_right)
    f_law := (f_law)
    d_law := (PySem.W.fnOf "law" "law" (defArgs s_law) (defBody s_law) (defScope s_law) .none kV_law dc_law pm_law an_law cd_law ct_law)
    F_law := (fun_mk (st := s_law) l_law c_law k_law)
    f_File_init := (f_File_init)
    d_File_init := (PySem.W.fnOf "__init__" "File.__init__" (defArgs s_File_init) (defBody s_File_init) (defScope s_File_init) (.ref T_File_init) kV_File_init dc_File_init pm_File_init an_File_init cd_File_init ct_File_init)
    F_File_init := (⟨⟨oc_File_init, od_File_init, (.ref T_File_init), kV_File_init, dc_File_init, pm_File_init, an_File_init, cd_File_init, ct_File_init, sl_File_init, rfl, l_File_init, c_File_init⟩, k_File_init⟩)
    b_File_init := (fun s us X hl => match us, hl with | [_, _], _ => BindsTo.of_defaults (T := T_File_init) rfl (X _ _ ld_File_init) rfl rfl rfl)
    kb_File_init_1_cells := (⟨fun s us ws X h1 h2 => match us, h1, ws, h2 with | [_], _, [_], _ => binds_d X ld_File_init rfl rfl rfl, okc (trivial) (okc (trivial) (okn))⟩)
    f_File_cells := (f_File_cells)
    d_File_cells := (PySem.W.fnOf "cells" "File.cells" (defArgs s_File_cells) (defBody s_File_cells) (defScope s_File_cells) .none kV_File_cells dc_File_cells pm_File_cells an_File_cells cd_File_cells ct_File_cells)
    F_File_cells := (fun_mk (st := s_File_cells) l_File_cells c_File_cells k_File_cells)
    b_File_cells := ((fun_mk (st := s_File_cells) l_File_cells c_File_cells k_File_cells).binds (ps := P_File_cells) fun _ _ _ _ _ _ us hl => match us, hl with | [_], _ => rfl)
    pr_File_cells := pr_File_cells
    V_File_cells := (⟨pa_File_cells, pb_File_cells, pc_File_cells, ⟨rs_File_cells, pd_File_cells⟩⟩)
    f_File_eq := (f_File_eq)
    d_File_eq := (PySem.W.fnOf "__eq__" "File.__eq__" (defArgs s_File_eq) (defBody s_File_eq) (defScope s_File_eq) .none kV_File_eq dc_File_eq pm_File_eq an_File_eq cd_File_eq ct_File_eq)
    F_File_eq := (fun_mk (st := s_File_eq) l_File_eq c_File_eq k_File_eq)
    b_File_eq := ((fun_mk (st := s_File_eq) l_File_eq c_File_eq k_File_eq).binds (ps := P_File_eq) fun _ _ _ _ _ _ us hl => match us, hl with | [_, _], _ => rfl)
    M_File_eq := (⟨a_File_eq, i_File_eq, k_File_eq⟩)
    f_File_cut := (f_File_cut)
    d_File_cut := (PySem.W.fnOf "cut" "File.cut" (defArgs s_File_cut) (defBody s_File_cut) (defScope s_File_cut) .none kV_File_cut dc_File_cut pm_File_cut an_File_cut cd_File_cut ct_File_cut)
    F_File_cut := (fun_mk (st := s_File_cut) l_File_cut c_File_cut k_File_cut)
    b_File_cut := ((fun_mk (st := s_File_cut) l_File_cut c_File_cut k_File_cut).binds (ps := P_File_cut) fun _ _ _ _ _ _ us hl => match us, hl with | [_, _], _ => rfl)
    kb_File_cut_1_length := (⟨fun s us ws X h1 h2 => match us, h1, ws, h2 with | [_], _, [_], _ => BindsTo.of_eq rfl, okc (trivial) (okc (trivial) (okn))⟩)
    M_File_cut := (⟨a_File_cut, i_File_cut, k_File_cut⟩)
    f_File_grown := (f_File_grown)
    d_File_grown := (PySem.W.fnOf "grown" "File.grown" (defArgs s_File_grown) (defBody s_File_grown) (defScope s_File_grown) .none kV_File_grown dc_File_grown pm_File_grown an_File_grown cd_File_grown ct_File_grown)
    F_File_grown := (fun_mk (st := s_File_grown) l_File_grown c_File_grown k_File_grown)
    b_File_grown := ((fun_mk (st := s_File_grown) l_File_grown c_File_grown k_File_grown).binds (ps := P_File_grown) fun _ _ _ _ _ _ us hl => match us, hl with | [_, _], _ => rfl)
    kb_File_grown_1_length := (⟨fun s us ws X h1 h2 => match us, h1, ws, h2 with | [_], _, [_], _ => BindsTo.of_eq rfl, okc (trivial) (okc (trivial) (okn))⟩)
    M_File_grown := (⟨a_File_grown, i_File_grown, k_File_grown⟩)
    f_File_punched := (f_File_punched)
    d_File_punched := (PySem.W.fnOf "punched" "File.punched" (defArgs s_File_punched) (defBody s_File_punched) (defScope s_File_punched) .none kV_File_punched dc_File_punched pm_File_punched an_File_punched cd_File_punched ct_File_punched)
    F_File_punched := (fun_mk (st := s_File_punched) l_File_punched c_File_punched k_File_punched)
    b_File_punched := ((fun_mk (st := s_File_punched) l_File_punched c_File_punched k_File_punched).binds (ps := P_File_punched) fun _ _ _ _ _ _ us hl => match us, hl with | [_, _, _, _], _ => rfl)
    kb_File_punched_1_size_end_begin := (⟨fun s us ws X h1 h2 => match us, h1, ws, h2 with | [_], _, [_, _, _], _ => BindsTo.of_eq rfl, okc (trivial) (okc (trivial) (okc (trivial) (okc (trivial) (okn))))⟩)
    M_File_punched := (⟨a_File_punched, i_File_punched, k_File_punched⟩)
    f_Step_play := (f_Step_play)
    d_Step_play := (PySem.W.fnOf "play" "Step.play" (defArgs s_Step_play) (defBody s_Step_play) (defScope s_Step_play) .none kV_Step_play dc_Step_play pm_Step_play an_Step_play cd_Step_play ct_Step_play)
    F_Step_play := (fun_mk (st := s_Step_play) l_Step_play c_Step_play k_Step_play)
    b_Step_play := ((fun_mk (st := s_Step_play) l_Step_play c_Step_play k_Step_play).binds (ps := P_Step_play) fun _ _ _ _ _ _ us hl => match us, hl with | [_, _], _ => rfl)
    kb_Step_play_1_file := (⟨fun s us ws X h1 h2 => match us, h1, ws, h2 with | [_], _, [_], _ => BindsTo.of_eq rfl, okc (trivial) (okc (trivial) (okn))⟩)
    f_Full_changed := (f_Full_changed)
    d_Full_changed := (PySem.W.fnOf "changed" "Full.changed" (defArgs s_Full_changed) (defBody s_Full_changed) (defScope s_Full_changed) .none kV_Full_changed dc_Full_changed pm_Full_changed an_Full_changed cd_Full_changed ct_Full_changed)
    F_Full_changed := (fun_mk (st := s_Full_changed) l_Full_changed c_Full_changed k_Full_changed)
    b_Full_changed := ((fun_mk (st := s_Full_changed) l_Full_changed c_Full_changed k_Full_changed).binds (ps := P_Full_changed) fun _ _ _ _ _ _ us hl => match us, hl with | [_, _], _ => rfl)
    M_Full_changed := (⟨a_Full_changed, i_Full_changed, k_Full_changed⟩)
    f_Full_eq := (f_Full_eq)
    d_Full_eq := (PySem.W.fnOf "__eq__" "Full.__eq__" (defArgs s_Full_eq) (defBody s_Full_eq) (defScope s_Full_eq) .none kV_Full_eq dc_Full_eq pm_Full_eq an_Full_eq cd_Full_eq ct_Full_eq)
    F_Full_eq := (fun_mk (st := s_Full_eq) l_Full_eq c_Full_eq k_Full_eq)
    b_Full_eq := ((fun_mk (st := s_Full_eq) l_Full_eq c_Full_eq k_Full_eq).binds (ps := P_Full_eq) fun _ _ _ _ _ _ us hl => match us, hl with | [_, _], _ => rfl)
    M_Full_eq := (⟨a_Full_eq, i_Full_eq, k_Full_eq⟩)
    f_Keep_init := (f_Keep_init)
    d_Keep_init := (PySem.W.fnOf "__init__" "Keep.__init__" (defArgs s_Keep_init) (defBody s_Keep_init) (defScope s_Keep_init) .none kV_Keep_init dc_Keep_init pm_Keep_init an_Keep_init cd_Keep_init ct_Keep_init)
    F_Keep_init := (fun_mk (st := s_Keep_init) l_Keep_init c_Keep_init k_Keep_init)
    b_Keep_init := ((fun_mk (st := s_Keep_init) l_Keep_init c_Keep_init k_Keep_init).binds (ps := P_Keep_init) fun _ _ _ _ _ _ us hl => match us, hl with | [_, _], _ => rfl)
    kb_Keep_init_1_size := (⟨fun s us ws X h1 h2 => match us, h1, ws, h2 with | [_], _, [_], _ => BindsTo.of_eq rfl, okc (trivial) (okc (trivial) (okn))⟩)
    f_Keep_size := (f_Keep_size)
    d_Keep_size := (PySem.W.fnOf "size" "Keep.size" (defArgs s_Keep_size) (defBody s_Keep_size) (defScope s_Keep_size) .none kV_Keep_size dc_Keep_size pm_Keep_size an_Keep_size cd_Keep_size ct_Keep_size)
    F_Keep_size := (fun_mk (st := s_Keep_size) l_Keep_size c_Keep_size k_Keep_size)
    b_Keep_size := ((fun_mk (st := s_Keep_size) l_Keep_size c_Keep_size k_Keep_size).binds (ps := P_Keep_size) fun _ _ _ _ _ _ us hl => match us, hl with | [_], _ => rfl)
    pr_Keep_size := pr_Keep_size
    V_Keep_size := (⟨pa_Keep_size, pb_Keep_size, pc_Keep_size, ⟨rs_Keep_size, pd_Keep_size⟩⟩)
    f_Keep_changed := (f_Keep_changed)
    d_Keep_changed := (PySem.W.fnOf "changed" "Keep.changed" (defArgs s_Keep_changed) (defBody s_Keep_changed) (defScope s_Keep_changed) .none kV_Keep_changed dc_Keep_changed pm_Keep_changed an_Keep_changed cd_Keep_changed ct_Keep_changed)
    F_Keep_changed := (fun_mk (st := s_Keep_changed) l_Keep_changed c_Keep_changed k_Keep_changed)
    b_Keep_changed := ((fun_mk (st := s_Keep_changed) l_Keep_changed c_Keep_changed k_Keep_changed).binds (ps := P_Keep_changed) fun _ _ _ _ _ _ us hl => match us, hl with | [_, _], _ => rfl)
    M_Keep_changed := (⟨a_Keep_changed, i_Keep_changed, k_Keep_changed⟩)
    f_Keep_eq := (f_Keep_eq)
    d_Keep_eq := (PySem.W.fnOf "__eq__" "Keep.__eq__" (defArgs s_Keep_eq) (defBody s_Keep_eq) (defScope s_Keep_eq) .none kV_Keep_eq dc_Keep_eq pm_Keep_eq an_Keep_eq cd_Keep_eq ct_Keep_eq)
    F_Keep_eq := (fun_mk (st := s_Keep_eq) l_Keep_eq c_Keep_eq k_Keep_eq)
    b_Keep_eq := ((fun_mk (st := s_Keep_eq) l_Keep_eq c_Keep_eq k_Keep_eq).binds (ps := P_Keep_eq) fun _ _ _ _ _ _ us hl => match us, hl with | [_, _], _ => rfl)
    M_Keep_eq := (⟨a_Keep_eq, i_Keep_eq, k_Keep_eq⟩)
    f_Lean_init := (f_Lean_init)
    d_Lean_init := (PySem.W.fnOf "__init__" "Lean.__init__" (defArgs s_Lean_init) (defBody s_Lean_init) (defScope s_Lean_init) .none kV_Lean_init dc_Lean_init pm_Lean_init an_Lean_init cd_Lean_init ct_Lean_init)
    F_Lean_init := (fun_mk (st := s_Lean_init) l_Lean_init c_Lean_init k_Lean_init)
    b_Lean_init := ((fun_mk (st := s_Lean_init) l_Lean_init c_Lean_init k_Lean_init).binds (ps := P_Lean_init) fun _ _ _ _ _ _ us hl => match us, hl with | [_, _], _ => rfl)
    kb_Lean_init_1_size := (⟨fun s us ws X h1 h2 => match us, h1, ws, h2 with | [_], _, [_], _ => BindsTo.of_eq rfl, okc (trivial) (okc (trivial) (okn))⟩)
    f_Lean_size := (f_Lean_size)
    d_Lean_size := (PySem.W.fnOf "size" "Lean.size" (defArgs s_Lean_size) (defBody s_Lean_size) (defScope s_Lean_size) .none kV_Lean_size dc_Lean_size pm_Lean_size an_Lean_size cd_Lean_size ct_Lean_size)
    F_Lean_size := (fun_mk (st := s_Lean_size) l_Lean_size c_Lean_size k_Lean_size)
    b_Lean_size := ((fun_mk (st := s_Lean_size) l_Lean_size c_Lean_size k_Lean_size).binds (ps := P_Lean_size) fun _ _ _ _ _ _ us hl => match us, hl with | [_], _ => rfl)
    pr_Lean_size := pr_Lean_size
    V_Lean_size := (⟨pa_Lean_size, pb_Lean_size, pc_Lean_size, ⟨rs_Lean_size, pd_Lean_size⟩⟩)
    f_Lean_changed := (f_Lean_changed)
    d_Lean_changed := (PySem.W.fnOf "changed" "Lean.changed" (defArgs s_Lean_changed) (defBody s_Lean_changed) (defScope s_Lean_changed) .none kV_Lean_changed dc_Lean_changed pm_Lean_changed an_Lean_changed cd_Lean_changed ct_Lean_changed)
    F_Lean_changed := (fun_mk (st := s_Lean_changed) l_Lean_changed c_Lean_changed k_Lean_changed)
    b_Lean_changed := ((fun_mk (st := s_Lean_changed) l_Lean_changed c_Lean_changed k_Lean_changed).binds (ps := P_Lean_changed) fun _ _ _ _ _ _ us hl => match us, hl with | [_, _], _ => rfl)
    M_Lean_changed := (⟨a_Lean_changed, i_Lean_changed, k_Lean_changed⟩)
    f_Lean_eq := (f_Lean_eq)
    d_Lean_eq := (PySem.W.fnOf "__eq__" "Lean.__eq__" (defArgs s_Lean_eq) (defBody s_Lean_eq) (defScope s_Lean_eq) .none kV_Lean_eq dc_Lean_eq pm_Lean_eq an_Lean_eq cd_Lean_eq ct_Lean_eq)
    F_Lean_eq := (fun_mk (st := s_Lean_eq) l_Lean_eq c_Lean_eq k_Lean_eq)
    b_Lean_eq := ((fun_mk (st := s_Lean_eq) l_Lean_eq c_Lean_eq k_Lean_eq).binds (ps := P_Lean_eq) fun _ _ _ _ _ _ us hl => match us, hl with | [_, _], _ => rfl)
    M_Lean_eq := (⟨a_Lean_eq, i_Lean_eq, k_Lean_eq⟩)
    f_Dig_init := (f_Dig_init)
    d_Dig_init := (PySem.W.fnOf "__init__" "Dig.__init__" (defArgs s_Dig_init) (defBody s_Dig_init) (defScope s_Dig_init) .none kV_Dig_init dc_Dig_init pm_Dig_init an_Dig_init cd_Dig_init ct_Dig_init)
    F_Dig_init := (fun_mk (st := s_Dig_init) l_Dig_init c_Dig_init k_Dig_init)
    b_Dig_init := ((fun_mk (st := s_Dig_init) l_Dig_init c_Dig_init k_Dig_init).binds (ps := P_Dig_init) fun _ _ _ _ _ _ us hl => match us, hl with | [_, _], _ => rfl)
    kb_Dig_init_1_size := (⟨fun s us ws X h1 h2 => match us, h1, ws, h2 with | [_], _, [_], _ => BindsTo.of_eq rfl, okc (trivial) (okc (trivial) (okn))⟩)
    f_Dig_size := (f_Dig_size)
    d_Dig_size := (PySem.W.fnOf "size" "Dig.size" (defArgs s_Dig_size) (defBody s_Dig_size) (defScope s_Dig_size) .none kV_Dig_size dc_Dig_size pm_Dig_size an_Dig_size cd_Dig_size ct_Dig_size)
    F_Dig_size := (fun_mk (st := s_Dig_size) l_Dig_size c_Dig_size k_Dig_size)
    b_Dig_size := ((fun_mk (st := s_Dig_size) l_Dig_size c_Dig_size k_Dig_size).binds (ps := P_Dig_size) fun _ _ _ _ _ _ us hl => match us, hl with | [_], _ => rfl)
    pr_Dig_size := pr_Dig_size
    V_Dig_size := (⟨pa_Dig_size, pb_Dig_size, pc_Dig_size, ⟨rs_Dig_size, pd_Dig_size⟩⟩)
    f_Dig_changed := (f_Dig_changed)
    d_Dig_changed := (PySem.W.fnOf "changed" "Dig.changed" (defArgs s_Dig_changed) (defBody s_Dig_changed) (defScope s_Dig_changed) .none kV_Dig_changed dc_Dig_changed pm_Dig_changed an_Dig_changed cd_Dig_changed ct_Dig_changed)
    F_Dig_changed := (fun_mk (st := s_Dig_changed) l_Dig_changed c_Dig_changed k_Dig_changed)
    b_Dig_changed := ((fun_mk (st := s_Dig_changed) l_Dig_changed c_Dig_changed k_Dig_changed).binds (ps := P_Dig_changed) fun _ _ _ _ _ _ us hl => match us, hl with | [_, _], _ => rfl)
    M_Dig_changed := (⟨a_Dig_changed, i_Dig_changed, k_Dig_changed⟩)
    f_Dig_eq := (f_Dig_eq)
    d_Dig_eq := (PySem.W.fnOf "__eq__" "Dig.__eq__" (defArgs s_Dig_eq) (defBody s_Dig_eq) (defScope s_Dig_eq) .none kV_Dig_eq dc_Dig_eq pm_Dig_eq an_Dig_eq cd_Dig_eq ct_Dig_eq)
    F_Dig_eq := (fun_mk (st := s_Dig_eq) l_Dig_eq c_Dig_eq k_Dig_eq)
    b_Dig_eq := ((fun_mk (st := s_Dig_eq) l_Dig_eq c_Dig_eq k_Dig_eq).binds (ps := P_Dig_eq) fun _ _ _ _ _ _ us hl => match us, hl with | [_, _], _ => rfl)
    M_Dig_eq := (⟨a_Dig_eq, i_Dig_eq, k_Dig_eq⟩)
    f_Script_init := (f_Script_init)
    d_Script_init := (PySem.W.fnOf "__init__" "Script.__init__" (defArgs s_Script_init) (defBody s_Script_init) (defScope s_Script_init) (.ref T_Script_init) kV_Script_init dc_Script_init pm_Script_init an_Script_init cd_Script_init ct_Script_init)
    F_Script_init := (⟨⟨oc_Script_init, od_Script_init, (.ref T_Script_init), kV_Script_init, dc_Script_init, pm_Script_init, an_Script_init, cd_Script_init, ct_Script_init, sl_Script_init, rfl, l_Script_init, c_Script_init⟩, k_Script_init⟩)
    b_Script_init := (fun s us X hl => match us, hl with | [_, _], _ => BindsTo.of_defaults (T := T_Script_init) rfl (X _ _ ld_Script_init) rfl rfl rfl)
    kb_Script_init_1_steps := (⟨fun s us ws X h1 h2 => match us, h1, ws, h2 with | [_], _, [_], _ => binds_d X ld_Script_init rfl rfl rfl, okc (trivial) (okc (trivial) (okn))⟩)
    f_Script_period := (f_Script_period)
    d_Script_period := (PySem.W.fnOf "period" "Script.period" (defArgs s_Script_period) (defBody s_Script_period) (defScope s_Script_period) .none kV_Script_period dc_Script_period pm_Script_period an_Script_period cd_Script_period ct_Script_period)
    F_Script_period := (fun_mk (st := s_Script_period) l_Script_period c_Script_period k_Script_period)
    b_Script_period := ((fun_mk (st := s_Script_period) l_Script_period c_Script_period k_Script_period).binds (ps := P_Script_period) fun _ _ _ _ _ _ us hl => match us, hl with | [_], _ => rfl)
    pr_Script_period := pr_Script_period
    V_Script_period := (⟨pa_Script_period, pb_Script_period, pc_Script_period, ⟨rs_Script_period, pd_Script_period⟩⟩)
    f_Script_iter := (f_Script_iter)
    d_Script_iter := (PySem.W.fnOf "__iter__" "Script.__iter__" (defArgs s_Script_iter) (defBody s_Script_iter) (defScope s_Script_iter) .none kV_Script_iter dc_Script_iter pm_Script_iter an_Script_iter cd_Script_iter ct_Script_iter)
    F_Script_iter := (fun_mk (st := s_Script_iter) l_Script_iter c_Script_iter k_Script_iter)
    b_Script_iter := ((fun_mk (st := s_Script_iter) l_Script_iter c_Script_iter k_Script_iter).binds (ps := P_Script_iter) fun _ _ _ _ _ _ us hl => match us, hl with | [_], _ => rfl)
    M_Script_iter := (⟨a_Script_iter, i_Script_iter, k_Script_iter⟩)
    f_Script_eq := (f_Script_eq)
    d_Script_eq := (PySem.W.fnOf "__eq__" "Script.__eq__" (defArgs s_Script_eq) (defBody s_Script_eq) (defScope s_Script_eq) .none kV_Script_eq dc_Script_eq pm_Script_eq an_Script_eq cd_Script_eq ct_Script_eq)
    F_Script_eq := (fun_mk (st := s_Script_eq) l_Script_eq c_Script_eq k_Script_eq)
    b_Script_eq := ((fun_mk (st := s_Script_eq) l_Script_eq c_Script_eq k_Script_eq).binds (ps := P_Script_eq) fun _ _ _ _ _ _ us hl => match us, hl with | [_, _], _ => rfl)
    M_Script_eq := (⟨a_Script_eq, i_Script_eq, k_Script_eq⟩)
    f_Script_add := (f_Script_add)
    d_Script_add := (PySem.W.fnOf "__add__" "Script.__add__" (defArgs s_Script_add) (defBody s_Script_add) (defScope s_Script_add) .none kV_Script_add dc_Script_add pm_Script_add an_Script_add cd_Script_add ct_Script_add)
    F_Script_add := (fun_mk (st := s_Script_add) l_Script_add c_Script_add k_Script_add)
    b_Script_add := ((fun_mk (st := s_Script_add) l_Script_add c_Script_add k_Script_add).binds (ps := P_Script_add) fun _ _ _ _ _ _ us hl => match us, hl with | [_, _], _ => rfl)
    M_Script_add := (⟨a_Script_add, i_Script_add, k_Script_add⟩)
    f_Script_without := (f_Script_without)
    d_Script_without := (PySem.W.fnOf "without" "Script.without" (defArgs s_Script_without) (defBody s_Script_without) (defScope s_Script_without) .none kV_Script_without dc_Script_without pm_Script_without an_Script_without cd_Script_without ct_Script_without)
    F_Script_without := (fun_mk (st := s_Script_without) l_Script_without c_Script_without k_Script_without)
    b_Script_without := ((fun_mk (st := s_Script_without) l_Script_without c_Script_without k_Script_without).binds (ps := P_Script_without) fun _ _ _ _ _ _ us hl => match us, hl with | [_, _], _ => rfl)
    kb_Script_without_1_k := (⟨fun s us ws X h1 h2 => match us, h1, ws, h2 with | [_], _, [_], _ => BindsTo.of_eq rfl, okc (trivial) (okc (trivial) (okn))⟩)
    M_Script_without := (⟨a_Script_without, i_Script_without, k_Script_without⟩)
    f_Script_traces := (f_Script_traces)
    d_Script_traces := (PySem.W.fnOf "traces" "Script.traces" (defArgs s_Script_traces) (defBody s_Script_traces) (defScope s_Script_traces) .none kV_Script_traces dc_Script_traces pm_Script_traces an_Script_traces cd_Script_traces ct_Script_traces)
    F_Script_traces := (fun_mk (st := s_Script_traces) l_Script_traces c_Script_traces k_Script_traces)
    b_Script_traces := ((fun_mk (st := s_Script_traces) l_Script_traces c_Script_traces k_Script_traces).binds (ps := P_Script_traces) fun _ _ _ _ _ _ us hl => match us, hl with | [_, _], _ => rfl)
    kb_Script_traces_1_file := (⟨fun s us ws X h1 h2 => match us, h1, ws, h2 with | [_], _, [_], _ => BindsTo.of_eq rfl, okc (trivial) (okc (trivial) (okn))⟩)
    M_Script_traces := (⟨a_Script_traces, i_Script_traces, k_Script_traces⟩)
    f_Script_play := (f_Script_play)
    d_Script_play := (PySem.W.fnOf "play" "Script.play" (defArgs s_Script_play) (defBody s_Script_play) (defScope s_Script_play) .none kV_Script_play dc_Script_play pm_Script_play an_Script_play cd_Script_play ct_Script_play)
    F_Script_play := (fun_mk (st := s_Script_play) l_Script_play c_Script_play k_Script_play)
    b_Script_play := ((fun_mk (st := s_Script_play) l_Script_play c_Script_play k_Script_play).binds (ps := P_Script_play) fun _ _ _ _ _ _ us hl => match us, hl with | [_, _], _ => rfl)
    kb_Script_play_1_file := (⟨fun s us ws X h1 h2 => match us, h1, ws, h2 with | [_], _, [_], _ => BindsTo.of_eq rfl, okc (trivial) (okc (trivial) (okn))⟩)
    M_Script_play := (⟨a_Script_play, i_Script_play, k_Script_play⟩)
    L_File := (⟨⟨pg_File, hd_File, po_File, sa_File⟩, ha_File, ohn, otk, mr_File⟩)
    K_File := (⟨mk_File, a_File_init, i_File_init, kc_File⟩)
    A_File_row := (na_File_row)
    L_Full := (⟨⟨pg_Full, hd_Full, po_Full, sa_Full⟩, ha_Full, ohn, otk, mr_Full⟩)
    K_Full := (⟨mk_Full, ii_Full, kc_Full, mr_Full⟩)
    L_Keep := (⟨⟨pg_Keep, hd_Keep, po_Keep, sa_Keep⟩, ha_Keep, ohn, otk, mr_Keep⟩)
    K_Keep := (⟨mk_Keep, a_Keep_init, i_Keep_init, kc_Keep⟩)
    A_Keep_wide := (na_Keep_wide)
    L_Lean := (⟨⟨pg_Lean, hd_Lean, po_Lean, sa_Lean⟩, ha_Lean, ohn, otk, mr_Lean⟩)
    K_Lean := (⟨mk_Lean, a_Lean_init, i_Lean_init, kc_Lean⟩)
    A_Lean_wide := (na_Lean_wide)
    L_Dig := (⟨⟨pg_Dig, hd_Dig, po_Dig, sa_Dig⟩, ha_Dig, ohn, otk, mr_Dig⟩)
    K_Dig := (⟨mk_Dig, a_Dig_init, i_Dig_init, kc_Dig⟩)
    A_Dig_wide := (na_Dig_wide)
    L_Script := (⟨⟨pg_Script, hd_Script, po_Script, sa_Script⟩, ha_Script, ohn, otk, mr_Script⟩)
    K_Script := (⟨mk_Script, a_Script_init, i_Script_init, kc_Script⟩)
    A_Script_rows := (na_Script_rows)
    M_Full_play := (⟨ah_Full_play, i_Step_play, k_Step_play⟩)
    M_Keep_play := (⟨ah_Keep_play, i_Step_play, k_Step_play⟩)
    M_Lean_play := (⟨ah_Lean_play, i_Step_play, k_Step_play⟩)
    M_Dig_play := (⟨ah_Dig_play, i_Step_play, k_Step_play⟩)
    ne_File := (ne_File)
    ne_Full := (ne_Full)
    ne_Keep := (ne_Keep)
    ne_Lean := (ne_Lean)
    ne_Dig := (ne_Dig)
    ne_Script := (ne_Script)
    sf_Script := (sf_Script)
    bo_Script_add := (by rw [show PySem.dunder (Operator.info .Add).2 = ("__add__" : Str) from by decide +kernel]; exact a_Script_add)
    s_File_File := (kit_self)
    s_Full_Dig := (kit_rr2 ic_Dig tc_Dig ms_Full s_Full_Dig)
    s_Full_Full := (kit_self)
    s_Full_Keep := (kit_rr2 ic_Keep tc_Keep ms_Full s_Full_Keep)
    s_Full_Lean := (kit_rr2 ic_Lean tc_Lean ms_Full s_Full_Lean)
    s_Full_Step := (kit_rr2 ic_Step tc_Step ms_Full s_Full_Step)
    nf_Keep_Full := (nf_Keep_Full)
    nf_Lean_Full := (nf_Lean_Full)
    nf_Dig_Full := (nf_Dig_Full)
    s_Keep_Dig := (kit_rr2 ic_Dig tc_Dig ms_Keep s_Keep_Dig)
    s_Keep_Full := (kit_rr2 ic_Full tc_Full ms_Keep s_Keep_Full)
    s_Keep_Keep := (kit_self)
    s_Keep_Lean := (kit_rr2 ic_Lean tc_Lean ms_Keep s_Keep_Lean)
    s_Keep_Step := (kit_rr2 ic_Step tc_Step ms_Keep s_Keep_Step)
    nf_Full_Keep := (nf_Full_Keep)
    nf_Lean_Keep := (nf_Lean_Keep)
    nf_Dig_Keep := (nf_Dig_Keep)
    s_Lean_Dig := (kit_rr2 ic_Dig tc_Dig ms_Lean s_Lean_Dig)
    s_Lean_Full := (kit_rr2 ic_Full tc_Full ms_Lean s_Lean_Full)
    s_Lean_Keep := (kit_rr2 ic_Keep tc_Keep ms_Lean s_Lean_Keep)
    s_Lean_Lean := (kit_self)
    s_Lean_Step := (kit_rr2 ic_Step tc_Step ms_Lean s_Lean_Step)
    nf_Full_Lean := (nf_Full_Lean)
    nf_Keep_Lean := (nf_Keep_Lean)
    nf_Dig_Lean := (nf_Dig_Lean)
    s_Dig_Dig := (kit_self)
    s_Dig_Full := (kit_rr2 ic_Full tc_Full ms_Dig s_Dig_Full)
    s_Dig_Keep := (kit_rr2 ic_Keep tc_Keep ms_Dig s_Dig_Keep)
    s_Dig_Lean := (kit_rr2 ic_Lean tc_Lean ms_Dig s_Dig_Lean)
    s_Dig_Step := (kit_rr2 ic_Step tc_Step ms_Dig s_Dig_Step)
    nf_Full_Dig := (nf_Full_Dig)
    nf_Keep_Dig := (nf_Keep_Dig)
    nf_Lean_Dig := (nf_Lean_Dig)
    s_Script_Script := (kit_self)
    C_InvalidFile := (C_InvalidFile)
    I_InvalidFile := (I_InvalidFile)
    mc_InvalidFile := (PySem.W.mg_of X G ac_InvalidFile)
    S_InvalidFile := ({ T := ⟨⟨nm_InvalidFile, q_InvalidFile, NN_InvalidFile, bs_InvalidFile, _, sn_InvalidFile, sub_InvalidFile, ab_InvalidFile, col_InvalidFile, dd_InvalidFile, m0_InvalidFile, m1_InvalidFile, m2_InvalidFile, m3_InvalidFile, m5_InvalidFile, xL_InvalidFile, by first | rfl | decide +kernel⟩, sa_InvalidFile, eC_InvalidFile, tC_InvalidFile, kC_InvalidFile⟩, iC := i_InvalidFile, tI := t_InvalidFile, nf := nb_InvalidFile, al := al_InvalidFile, sV := sV_InvalidFile, sC := sC_InvalidFile, op := zop, tp := by decide +kernel, ne := by decide, nd := by decide, fn := ⟨oc_InvalidFile, od_InvalidFile, sl_InvalidFile, "__init__", "InvalidFile.__init__", defArgs si_InvalidFile, defScope si_InvalidFile, .ref T_InvalidFile, kV_InvalidFile, dc_InvalidFile, pm_InvalidFile, an_InvalidFile, cda_InvalidFile, ct_InvalidFile, cc_InvalidFile, ⟨10, 8, 10, 13⟩, ⟨10, 8, 10, 15⟩, ⟨10, 8, 10, 24⟩, ⟨10, 25, 10, 30⟩, ⟨10, 8, 10, 31⟩, ⟨10, 8, 10, 31⟩, ⟨11, 8, 11, 12⟩, ⟨11, 8, 11, 18⟩, ⟨11, 21, 11, 26⟩, ⟨11, 8, 11, 26⟩, { arg := "self", annotation := none, pos := ⟨9, 17, 9, 21⟩ }, ccl_InvalidFile, cdd_InvalidFile, vs_InvalidFile, ccs_InvalidFile, file_InvalidFile, tf_InvalidFile, cl_InvalidFile, cld_InvalidFile, csl_InvalidFile, l_InvalidFile, cd_InvalidFile, by rfl, by rfl, by rfl, by rfl, by rfl, by decide +kernel, by rfl, by rfl, by rfl, by rfl, cr_InvalidFile, v2_InvalidFile, fl_InvalidFile, clc_InvalidFile, (fun s us X hl => match us, hl with | [_, _], _ => BindsTo.of_defaults (T := T_InvalidFile) rfl (X _ _ ld_InvalidFile) rfl rfl rfl), fun _ => ⟨_, rfl⟩⟩ })
    C_InvalidNumber := (C_InvalidNumber)
    I_InvalidNumber := (I_InvalidNumber)
    mc_InvalidNumber := (PySem.W.mg_of X G ac_InvalidNumber)
    S_InvalidNumber := ({ T := ⟨⟨nm_InvalidNumber, q_InvalidNumber, NN_InvalidNumber, bs_InvalidNumber, _, sn_InvalidNumber, sub_InvalidNumber, ab_InvalidNumber, col_InvalidNumber, dd_InvalidNumber, m0_InvalidNumber, m1_InvalidNumber, m2_InvalidNumber, m3_InvalidNumber, m5_InvalidNumber, xL_InvalidNumber, by first | rfl | decide +kernel⟩, sa_InvalidNumber, eC_InvalidNumber, tC_InvalidNumber, kC_InvalidNumber⟩, iC := i_InvalidNumber, tI := t_InvalidNumber, nf := nb_InvalidNumber, al := al_InvalidNumber, sV := sV_InvalidNumber, sC := sC_InvalidNumber, op := zop, tp := by decide +kernel, ne := by decide, nd := by decide, fn := ⟨oc_InvalidNumber, od_InvalidNumber, sl_InvalidNumber, "__init__", "InvalidNumber.__init__", defArgs si_InvalidNumber, defScope si_InvalidNumber, .ref T_InvalidNumber, kV_InvalidNumber, dc_InvalidNumber, pm_InvalidNumber, an_InvalidNumber, cda_InvalidNumber, ct_InvalidNumber, cc_InvalidNumber, ⟨15, 8, 15, 13⟩, ⟨15, 8, 15, 15⟩, ⟨15, 8, 15, 24⟩, ⟨15, 25, 15, 30⟩, ⟨15, 8, 15, 31⟩, ⟨15, 8, 15, 31⟩, ⟨16, 8, 16, 12⟩, ⟨16, 8, 16, 18⟩, ⟨16, 21, 16, 26⟩, ⟨16, 8, 16, 26⟩, { arg := "self", annotation := none, pos := ⟨14, 17, 14, 21⟩ }, ccl_InvalidNumber, cdd_InvalidNumber, vs_InvalidNumber, ccs_InvalidNumber, file_InvalidNumber, tf_InvalidNumber, cl_InvalidNumber, cld_InvalidNumber, csl_InvalidNumber, l_InvalidNumber, cd_InvalidNumber, by rfl, by rfl, by rfl, by rfl, by rfl, by decide +kernel, by rfl, by rfl, by rfl, by rfl, cr_InvalidNumber, v2_InvalidNumber, fl_InvalidNumber, clc_InvalidNumber, (fun s us X hl => match us, hl with | [_, _], _ => BindsTo.of_defaults (T := T_InvalidNumber) rfl (X _ _ ld_InvalidNumber) rfl rfl rfl), fun _ => ⟨_, rfl⟩⟩ })
    C_InvalidScript := (C_InvalidScript)
    C_InvalidList := (C_InvalidList)
    I_InvalidList := (I_InvalidList)
    mc_InvalidList := (PySem.W.mg_of X G ac_InvalidList)
    S_InvalidList := ({ T := ⟨⟨nm_InvalidList, q_InvalidList, NN_InvalidList, bs_InvalidList, _, sn_InvalidList, sub_InvalidList, ab_InvalidList, col_InvalidList, dd_InvalidList, m0_InvalidList, m1_InvalidList, m2_InvalidList, m3_InvalidList, m5_InvalidList, xL_InvalidList, by first | rfl | decide +kernel⟩, sa_InvalidList, eC_InvalidList, tC_InvalidList, kC_InvalidList⟩, iC := i_InvalidList, tI := t_InvalidList, nf := nb_InvalidList, al := al_InvalidList, sV := sV_InvalidList, sC := sC_InvalidList, op := zop, tp := by decide +kernel, ne := by decide, nd := by decide, fn := ⟨oc_InvalidList, od_InvalidList, sl_InvalidList, "__init__", "InvalidList.__init__", defArgs si_InvalidList, defScope si_InvalidList, .ref T_InvalidList, kV_InvalidList, dc_InvalidList, pm_InvalidList, an_InvalidList, cda_InvalidList, ct_InvalidList, cc_InvalidList, ⟨25, 8, 25, 13⟩, ⟨25, 8, 25, 15⟩, ⟨25, 8, 25, 24⟩, ⟨25, 25, 25, 30⟩, ⟨25, 8, 25, 31⟩, ⟨25, 8, 25, 31⟩, ⟨26, 8, 26, 12⟩, ⟨26, 8, 26, 18⟩, ⟨26, 21, 26, 26⟩, ⟨26, 8, 26, 26⟩, { arg := "self", annotation := none, pos := ⟨24, 17, 24, 21⟩ }, ccl_InvalidList, cdd_InvalidList, vs_InvalidList, ccs_InvalidList, file_InvalidList, tf_InvalidList, cl_InvalidList, cld_InvalidList, csl_InvalidList, l_InvalidList, cd_InvalidList, by rfl, by rfl, by rfl, by rfl, by rfl, by decide +kernel, by rfl, by rfl, by rfl, by rfl, cr_InvalidList, v2_InvalidList, fl_InvalidList, clc_InvalidList, (fun s us X hl => match us, hl with | [_, _], _ => BindsTo.of_defaults (T := T_InvalidList) rfl (X _ _ ld_InvalidList) rfl rfl rfl), fun _ => ⟨_, rfl⟩⟩ }) }
  exact ⟨R.d_law, fun s v => .of_eq rfl, fun base _ _ => ok_law R⟩
theorem walk {q : Program} {loose : List Str} {XP : (Str → Option Value) → Heap → Prop} {YP : World → Heap → Prop} {d : DefRec} {K : Params → Frag} (hdf : d.params.defaults = [])
    (hY : ∀ (w : World) (h : Heap), YP w h → (K w.params).In h)
    (F : ∀ (w : World) (mg : Str → Option Value) (fa : Addr) (h : Heap), (K w.params).In h → h.Ns mainGlobals mg → mg d.name = some (.ref fa) →
      ∃ fd : FuncData, (∀ (s : Shared) (u : Value), BindsTo s fd ⟨[u], []⟩ [("script", u)]) ∧ ∀ base : Heap, (K w.params).In base → base.Ns mainGlobals mg → FnOk PySem.Challenge.rw_keptholes_k40_arguments_by_name.prog w (K w.params) mg base CX0 14 fa fd ["script"] (toSp (K w.params) spLaw)) :
    PySem.W.WalkO q loose XP YP PySem.Challenge.rw_keptholes_k40_arguments_by_name.row.toRowW d [] (fun f vs => PySem.call f vs) :=
  L2.walk_of (l := PySem.Challenge.rw_keptholes_k40_arguments_by_name) (n := 63) (k := 14) (x := "script") (CX := fun _ => CX0) (sp := fun w => toSp (K w.params) spLaw) rfl (by decide) hdf ⟨rfl, by decide, by decide⟩ hY F
    (fun w H a ns hl _ hS => law_sp hl hS) fun _ _ _ _ _ z => z
end Kh
open PySem PySem.W PyProof.Rows in
set_option maxRecDepth 100000 in
set_option maxHeartbeats 0 in
theorem PySem.Challenge.cw_keptholes_k40_arguments_by_name_holds : PySem.Challenge.rw_keptholes_k40_arguments_by_name.Holds := by
  w_on; o_law; k_headL; (case hw => w_witness2)
  as_aux_lemma =>
    k_fill
    refine Kh.walk rfl (fun w h Y => PySem.W.kIn_of Y) ?F
    case F =>
      intro w mg fa h KX G hmg
      refine' Kh.all_mk KX G hmg ?z_bool ?z_enumerate ?z_int ?z_isinstance ?z_iter ?z_len ?z_list ?z_max ?z_min ?z_range ?z_set ?z_sorted ?z_str ?z_sum ?z_super ?z_tuple ?g_SIGNS ?ac_File ?ac_Step ?ac_Full ?ac_Keep ?ac_Lean ?ac_Dig ?ac_Script ?a_is_whole ?l_is_whole ?c_is_whole ?k_is_whole ?a_check_least ?l_check_least ?c_check_least ?k_check_least ?a_check_within ?l_check_within ?c_check_within ?k_check_within ?a_divisor_of ?l_divisor_of ?c_divisor_of ?k_divisor_of ?a_multiple_of ?l_multiple_of ?c_multiple_of ?k_multiple_of ?a_are_sizes ?l_are_sizes ?c_are_sizes ?k_are_sizes ?a_widened ?l_widened ?c_widened ?k_widened ?a_spread ?l_spread ?c_spread ?k_spread ?a_rounds_spread ?l_rounds_spread ?c_rounds_spread ?k_rounds_spread ?a_settles ?l_settles ?c_settles ?k_settles ?a_are_cells ?l_are_cells ?c_are_cells ?k_are_cells ?a_punched_cell ?l_punched_cell ?c_punched_cell ?k_punched_cell ?a_check_file ?l_check_file ?c_check_file ?k_check_file ?a_blocks_of ?l_blocks_of ?c_blocks_of ?k_blocks_of ?a_filled ?l_filled ?c_filled ?k_filled ?a_has_sign ?l_has_sign ?c_has_sign ?k_has_sign ?a_are_steps ?l_are_steps ?c_are_steps ?k_are_steps ?a_check_script ?l_check_script ?c_check_script ?k_check_script ?a_holds_in ?l_holds_in ?c_holds_in ?k_holds_in ?a_is_held ?l_is_held ?c_is_held ?k_is_held ?a_least_of ?l_least_of ?c_least_of ?k_least_of ?a_dug ?l_dug ?c_dug ?k_dug ?a_behind_step ?l_behind_step ?c_behind_step ?k_behind_step ?a_reason_table ?l_reason_table ?c_reason_table ?k_reason_table ?a_cells_of ?l_cells_of ?c_cells_of ?k_cells_of ?a_reasons ?l_reasons ?c_reasons ?k_reasons ?a_moved_table ?l_moved_table ?c_moved_table ?k_moved_table ?a_put_down ?l_put_down ?c_put_down ?k_put_down ?a_more_of ?l_more_of ?c_more_of ?k_more_of ?a_check_two ?l_check_two ?c_check_two ?k_check_two ?a_more_file ?l_more_file ?c_more_file ?k_more_file ?a_never_more ?l_never_more ?c_never_more ?k_never_more ?a_parting_of ?l_parting_of ?c_parting_of ?k_parting_of ?a_parting ?l_parting ?c_parting ?k_parting ?a_alike ?l_alike ?c_alike ?k_alike ?a_exchangeable ?l_exchangeable ?c_exchangeable ?k_exchangeable ?a_law_files_right ?l_law_files_right ?c_law_files_right ?k_law_files_right ?a_law_rest_right ?l_law_rest_right ?c_law_rest_right ?k_law_rest_right ?a_law ?l_law ?c_law ?k_law ?a_File_init ?i_File_init ?l_File_init ?c_File_init ?k_File_init ?ld_File_init ?pa_File_cells ?pb_File_cells ?pc_File_cells ?pd_File_cells ?l_File_cells ?c_File_cells ?k_File_cells ?a_File_eq ?i_File_eq ?l_File_eq ?c_File_eq ?k_File_eq ?a_File_cut ?i_File_cut ?l_File_cut ?c_File_cut ?k_File_cut ?a_File_grown ?i_File_grown ?l_File_grown ?c_File_grown ?k_File_grown ?a_File_punched ?i_File_punched ?l_File_punched ?c_File_punched ?k_File_punched ?a_Step_play ?i_Step_play ?l_Step_play ?c_Step_play ?k_Step_play ?a_Full_changed ?i_Full_changed ?l_Full_changed ?c_Full_changed ?k_Full_changed ?a_Full_eq ?i_Full_eq ?l_Full_eq ?c_Full_eq ?k_Full_eq ?a_Keep_init ?i_Keep_init ?l_Keep_init ?c_Keep_init ?k_Keep_init ?pa_Keep_size ?pb_Keep_size ?pc_Keep_size ?pd_Keep_size ?l_Keep_size ?c_Keep_size ?k_Keep_size ?a_Keep_changed ?i_Keep_changed ?l_Keep_changed ?c_Keep_changed ?k_Keep_changed ?a_Keep_eq ?i_Keep_eq ?l_Keep_eq ?c_Keep_eq ?k_Keep_eq ?a_Lean_init ?i_Lean_init ?l_Lean_init ?c_Lean_init ?k_Lean_init ?pa_Lean_size ?pb_Lean_size ?pc_Lean_size ?pd_Lean_size ?l_Lean_size ?c_Lean_size ?k_Lean_size ?a_Lean_changed ?i_Lean_changed ?l_Lean_changed ?c_Lean_changed ?k_Lean_changed ?a_Lean_eq ?i_Lean_eq ?l_Lean_eq ?c_Lean_eq ?k_Lean_eq ?a_Dig_init ?i_Dig_init ?l_Dig_init ?c_Dig_init ?k_Dig_init ?pa_Dig_size ?pb_Dig_size ?pc_Dig_size ?pd_Dig_size ?l_Dig_size ?c_Dig_size ?k_Dig_size ?a_Dig_changed ?i_Dig_changed ?l_Dig_changed ?c_Dig_changed ?k_Dig_changed ?a_Dig_eq ?i_Dig_eq ?l_Dig_eq ?c_Dig_eq ?k_Dig_eq ?a_Script_init ?i_Script_init ?l_Script_init ?c_Script_init ?k_Script_init ?ld_Script_init ?pa_Script_period ?pb_Script_period ?pc_Script_period ?pd_Script_period ?l_Script_period ?c_Script_period ?k_Script_period ?a_Script_iter ?i_Script_iter ?l_Script_iter ?c_Script_iter ?k_Script_iter ?a_Script_eq ?i_Script_eq ?l_Script_eq ?c_Script_eq ?k_Script_eq ?a_Script_add ?i_Script_add ?l_Script_add ?c_Script_add ?k_Script_add ?a_Script_without ?i_Script_without ?l_Script_without ?c_Script_without ?k_Script_without ?a_Script_traces ?i_Script_traces ?l_Script_traces ?c_Script_traces ?k_Script_traces ?a_Script_play ?i_Script_play ?l_Script_play ?c_Script_play ?k_Script_play ?ohn ?otk ?pg_File ?hd_File ?po_File ?sa_File ?ha_File ?mr_File ?mk_File ?kc_File ?na_File_row ?pg_Full ?hd_Full ?po_Full ?sa_Full ?ha_Full ?mr_Full ?ms_Full ?mk_Full ?kc_Full ?ii_Full ?pg_Keep ?hd_Keep ?po_Keep ?sa_Keep ?ha_Keep ?mr_Keep ?ms_Keep ?mk_Keep ?kc_Keep ?na_Keep_wide ?pg_Lean ?hd_Lean ?po_Lean ?sa_Lean ?ha_Lean ?mr_Lean ?ms_Lean ?mk_Lean ?kc_Lean ?na_Lean_wide ?pg_Dig ?hd_Dig ?po_Dig ?sa_Dig ?ha_Dig ?mr_Dig ?ms_Dig ?mk_Dig ?kc_Dig ?na_Dig_wide ?pg_Script ?hd_Script ?po_Script ?sa_Script ?ha_Script ?mr_Script ?mk_Script ?kc_Script ?na_Script_rows ?ic_Dig ?tc_Dig ?ic_Full ?tc_Full ?ic_Keep ?tc_Keep ?ic_Lean ?tc_Lean ?ic_Step ?tc_Step ?ah_Full_play ?ah_Keep_play ?ah_Lean_play ?ah_Dig_play ?ne_File ?ne_Full ?ne_Keep ?ne_Lean ?ne_Dig ?ne_Script ?sf_Script ?s_Full_Dig ?s_Full_Keep ?s_Full_Lean ?s_Full_Step ?nf_Keep_Full ?nf_Lean_Full ?nf_Dig_Full ?s_Keep_Dig ?s_Keep_Full ?s_Keep_Lean ?s_Keep_Step ?nf_Full_Keep ?nf_Lean_Keep ?nf_Dig_Keep ?s_Lean_Dig ?s_Lean_Full ?s_Lean_Keep ?s_Lean_Step ?nf_Full_Lean ?nf_Keep_Lean ?nf_Dig_Lean ?s_Dig_Full ?s_Dig_Keep ?s_Dig_Lean ?s_Dig_Step ?nf_Full_Dig ?nf_Keep_Dig ?nf_Lean_Dig ?zop ?ac_InvalidFile ?ac_HoleError ?xL_InvalidFile ?sa_InvalidFile ?nb_InvalidFile ?i_InvalidFile ?t_InvalidFile ?l_InvalidFile ?ld_InvalidFile ?cd_InvalidFile ?cr_InvalidFile ?v2_InvalidFile ?fl_InvalidFile ?clc_InvalidFile ?al_InvalidFile ?sV_InvalidFile ?eC_InvalidFile ?sC_InvalidFile ?kC_InvalidFile ?tC_InvalidFile ?ac_InvalidNumber ?xL_InvalidNumber ?sa_InvalidNumber ?nb_InvalidNumber ?i_InvalidNumber ?t_InvalidNumber ?l_InvalidNumber ?ld_InvalidNumber ?cd_InvalidNumber ?cr_InvalidNumber ?v2_InvalidNumber ?fl_InvalidNumber ?clc_InvalidNumber ?al_InvalidNumber ?sV_InvalidNumber ?eC_InvalidNumber ?sC_InvalidNumber ?kC_InvalidNumber ?tC_InvalidNumber ?ac_InvalidScript ?ac_InvalidList ?xL_InvalidList ?sa_InvalidList ?nb_InvalidList ?i_InvalidList ?t_InvalidList ?l_InvalidList ?ld_InvalidList ?cd_InvalidList ?cr_InvalidList ?v2_InvalidList ?fl_InvalidList ?clc_InvalidList ?al_InvalidList ?sV_InvalidList ?eC_InvalidList ?sC_InvalidList ?kC_InvalidList ?tC_InvalidList

      (case z_bool => k_is)
      (case z_enumerate => k_is)
      (case z_int => k_is)
      (case z_isinstance => k_is)
      (case z_iter => k_is)
      (case z_len => k_is)
      (case z_list => k_is)
      (case z_max => k_is)
      (case z_min => k_is)
      (case z_range => k_is)
      (case z_set => k_is)
      (case z_sorted => k_is)
      (case z_str => k_is)
      (case z_sum => k_is)
      (case z_super => k_is)
      (case z_tuple => k_is)
      (case g_SIGNS => k_is)
      (case ac_File => k_is)
      (case ac_Step => k_is)
      (case ac_Full => k_is)
      (case ac_Keep => k_is)
      (case ac_Lean => k_is)
      (case ac_Dig => k_is)
      (case ac_Script => k_is)
      (case a_is_whole => k_is)
      (case l_is_whole => k_is)
      (case c_is_whole => k_is)
      (case k_is_whole => k_is)
      (case a_check_least => k_is)
      (case l_check_least => k_is)
      (case c_check_least => k_is)
      (case k_check_least => k_is)
      (case a_check_within => k_is)
      (case l_check_within => k_is)
      (case c_check_within => k_is)
      (case k_check_within => k_is)
      (case a_divisor_of => k_is)
      (case l_divisor_of => k_is)
      (case c_divisor_of => k_is)
      (case k_divisor_of => k_is)
      (case a_multiple_of => k_is)
      (case l_multiple_of => k_is)
      (case c_multiple_of => k_is)
      (case k_multiple_of => k_is)
      (case a_are_sizes => k_is)
      (case l_are_sizes => k_is)
      (case c_are_sizes => k_is)
      (case k_are_sizes => k_is)
      (case a_widened => k_is)
      (case l_widened => k_is)
      (case c_widened => k_is)
      (case k_widened => k_is)
      (case a_spread => k_is)
      (case l_spread => k_is)
      (case c_spread => k_is)
      (case k_spread => k_is)
      (case a_rounds_spread => k_is)
      (case l_rounds_spread => k_is)
      (case c_rounds_spread => k_is)
      (case k_rounds_spread => k_is)
      (case a_settles => k_is)
      (case l_settles => k_is)
      (case c_settles => k_is)
      (case k_settles => k_is)
      (case a_are_cells => k_is)
      (case l_are_cells => k_is)
      (case c_are_cells => k_is)
      (case k_are_cells => k_is)
      (case a_punched_cell => k_is)
      (case l_punched_cell => k_is)
      (case c_punched_cell => k_is)
      (case k_punched_cell => k_is)
      (case a_check_file => k_is)
      (case l_check_file => k_is)
      (case c_check_file => k_is)
      (case k_check_file => k_is)
      (case a_blocks_of => k_is)
      (case l_blocks_of => k_is)
      (case c_blocks_of => k_is)
      (case k_blocks_of => k_is)
      (case a_filled => k_is)
      (case l_filled => k_is)
      (case c_filled => k_is)
      (case k_filled => k_is)
      (case a_has_sign => k_is)
      (case l_has_sign => k_is)
      (case c_has_sign => k_is)
      (case k_has_sign => k_is)
      (case a_are_steps => k_is)
      (case l_are_steps => k_is)
      (case c_are_steps => k_is)
      (case k_are_steps => k_is)
      (case a_check_script => k_is)
      (case l_check_script => k_is)
      (case c_check_script => k_is)
      (case k_check_script => k_is)
      (case a_holds_in => k_is)
      (case l_holds_in => k_is)
      (case c_holds_in => k_is)
      (case k_holds_in => k_is)
      (case a_is_held => k_is)
      (case l_is_held => k_is)
      (case c_is_held => k_is)
      (case k_is_held => k_is)
      (case a_least_of => k_is)
      (case l_least_of => k_is)
      (case c_least_of => k_is)
      (case k_least_of => k_is)
      (case a_dug => k_is)
      (case l_dug => k_is)
      (case c_dug => k_is)
      (case k_dug => k_is)
      (case a_behind_step => k_is)
      (case l_behind_step => k_is)
      (case c_behind_step => k_is)
      (case k_behind_step => k_is)
      (case a_reason_table => k_is)
      (case l_reason_table => k_is)
      (case c_reason_table => k_is)
      (case k_reason_table => k_is)
      (case a_cells_of => k_is)
      (case l_cells_of => k_is)
      (case c_cells_of => k_is)
      (case k_cells_of => k_is)
      (case a_reasons => k_is)
      (case l_reasons => k_is)
      (case c_reasons => k_is)
      (case k_reasons => k_is)
      (case a_moved_table => k_is)
      (case l_moved_table => k_is)
      (case c_moved_table => k_is)
      (case k_moved_table => k_is)
      (case a_put_down => k_is)
      (case l_put_down => k_is)
      (case c_put_down => k_is)
      (case k_put_down => k_is)
      (case a_more_of => k_is)
      (case l_more_of => k_is)
      (case c_more_of => k_is)
      (case k_more_of => k_is)
      (case a_check_two => k_is)
      (case l_check_two => k_is)
      (case c_check_two => k_is)
      (case k_check_two => k_is)
      (case a_more_file => k_is)
      (case l_more_file => k_is)
      (case c_more_file => k_is)
      (case k_more_file => k_is)
      (case a_never_more => k_is)
      (case l_never_more => k_is)
      (case c_never_more => k_is)
      (case k_never_more => k_is)
      (case a_parting_of => k_is)
      (case l_parting_of => k_is)
      (case c_parting_of => k_is)
      (case k_parting_of => k_is)
      (case a_parting => k_is)
      (case l_parting => k_is)
      (case c_parting => k_is)
      (case k_parting => k_is)
      (case a_alike => k_is)
      (case l_alike => k_is)
      (case c_alike => k_is)
      (case k_alike => k_is)
      (case a_exchangeable => k_is)
      (case l_exchangeable => k_is)
      (case c_exchangeable => k_is)
      (case k_exchangeable => k_is)
      (case a_law_files_right => k_is)
      (case l_law_files_right => k_is)
      (case c_law_files_right => k_is)
      (case k_law_files_right => k_is)
      (case a_law_rest_right => k_is)
      (case l_law_rest_right => k_is)
      (case c_law_rest_right => k_is)
      (case k_law_rest_right => k_is)
      (case a_law => k_is)
      (case l_law => k_is)
      (case c_law => k_is)
      (case k_law => k_is)
      (case a_File_init => k_is)
      (case i_File_init => k_is)
      (case l_File_init => k_is)
      (case c_File_init => k_is)
      (case k_File_init => k_is)
      (case ld_File_init => k_is)
      (case pa_File_cells => k_is)
      (case pb_File_cells => k_is)
      (case pc_File_cells => k_is)
      (case pd_File_cells => k_is)
      (case l_File_cells => k_is)
      (case c_File_cells => k_is)
      (case k_File_cells => k_is)
      (case a_File_eq => k_is)
      (case i_File_eq => k_is)
      (case l_File_eq => k_is)
      (case c_File_eq => k_is)
      (case k_File_eq => k_is)
      (case a_File_cut => k_is)
      (case i_File_cut => k_is)
      (case l_File_cut => k_is)
      (case c_File_cut => k_is)
      (case k_File_cut => k_is)
      (case a_File_grown => k_is)
      (case i_File_grown => k_is)
      (case l_File_grown => k_is)
      (case c_File_grown => k_is)
      (case k_File_grown => k_is)
      (case a_File_punched => k_is)
      (case i_File_punched => k_is)
      (case l_File_punched => k_is)
      (case c_File_punched => k_is)
      (case k_File_punched => k_is)
      (case a_Step_play => k_is)
      (case i_Step_play => k_is)
      (case l_Step_play => k_is)
      (case c_Step_play => k_is)
      (case k_Step_play => k_is)
      (case a_Full_changed => k_is)
      (case i_Full_changed => k_is)
      (case l_Full_changed => k_is)
      (case c_Full_changed => k_is)
      (case k_Full_changed => k_is)
      (case a_Full_eq => k_is)
      (case i_Full_eq => k_is)
      (case l_Full_eq => k_is)
      (case c_Full_eq => k_is)
      (case k_Full_eq => k_is)
      (case a_Keep_init => k_is)
      (case i_Keep_init => k_is)
      (case l_Keep_init => k_is)
      (case c_Keep_init => k_is)
      (case k_Keep_init => k_is)
      (case pa_Keep_size => k_is)
      (case pb_Keep_size => k_is)
      (case pc_Keep_size => k_is)
      (case pd_Keep_size => k_is)
      (case l_Keep_size => k_is)
      (case c_Keep_size => k_is)
      (case k_Keep_size => k_is)
      (case a_Keep_changed => k_is)
      (case i_Keep_changed => k_is)
      (case l_Keep_changed => k_is)
      (case c_Keep_changed => k_is)
      (case k_Keep_changed => k_is)
      (case a_Keep_eq => k_is)
      (case i_Keep_eq => k_is)
      (case l_Keep_eq => k_is)
      (case c_Keep_eq => k_is)
      (case k_Keep_eq => k_is)
      (case a_Lean_init => k_is)
      (case i_Lean_init => k_is)
      (case l_Lean_init => k_is)
      (case c_Lean_init => k_is)
      (case k_Lean_init => k_is)
      (case pa_Lean_size => k_is)
      (case pb_Lean_size => k_is)
      (case pc_Lean_size => k_is)
      (case pd_Lean_size => k_is)
      (case l_Lean_size => k_is)
      (case c_Lean_size => k_is)
      (case k_Lean_size => k_is)
      (case a_Lean_changed => k_is)
      (case i_Lean_changed => k_is)
      (case l_Lean_changed => k_is)
      (case c_Lean_changed => k_is)
      (case k_Lean_changed => k_is)
      (case a_Lean_eq => k_is)
      (case i_Lean_eq => k_is)
      (case l_Lean_eq => k_is)
      (case c_Lean_eq => k_is)
      (case k_Lean_eq => k_is)
      (case a_Dig_init => k_is)
      (case i_Dig_init => k_is)
      (case l_Dig_init => k_is)
      (case c_Dig_init => k_is)
      (case k_Dig_init => k_is)
      (case pa_Dig_size => k_is)
      (case pb_Dig_size => k_is)
      (case pc_Dig_size => k_is)
      (case pd_Dig_size => k_is)
      (case l_Dig_size => k_is)
      (case c_Dig_size => k_is)
      (case k_Dig_size => k_is)
      (case a_Dig_changed => k_is)
      (case i_Dig_changed => k_is)
      (case l_Dig_changed => k_is)
      (case c_Dig_changed => k_is)
      (case k_Dig_changed => k_is)
      (case a_Dig_eq => k_is)
      (case i_Dig_eq => k_is)
      (case l_Dig_eq => k_is)
      (case c_Dig_eq => k_is)
      (case k_Dig_eq => k_is)
      (case a_Script_init => k_is)
      (case i_Script_init => k_is)
      (case l_Script_init => k_is)
      (case c_Script_init => k_is)
      (case k_Script_init => k_is)
      (case ld_Script_init => k_is)
      (case pa_Script_period => k_is)
      (case pb_Script_period => k_is)
      (case pc_Script_period => k_is)
      (case pd_Script_period => k_is)
      (case l_Script_period => k_is)
      (case c_Script_period => k_is)
      (case k_Script_period => k_is)
      (case a_Script_iter => k_is)
      (case i_Script_iter => k_is)
      (case l_Script_iter => k_is)
      (case c_Script_iter => k_is)
      (case k_Script_iter => k_is)
      (case a_Script_eq => k_is)
      (case i_Script_eq => k_is)
      (case l_Script_eq => k_is)
      (case c_Script_eq => k_is)
      (case k_Script_eq => k_is)
      (case a_Script_add => k_is)
      (case i_Script_add => k_is)
      (case l_Script_add => k_is)
      (case c_Script_add => k_is)
      (case k_Script_add => k_is)
      (case a_Script_without => k_is)
      (case i_Script_without => k_is)
      (case l_Script_without => k_is)
      (case c_Script_without => k_is)
      (case k_Script_without => k_is)
      (case a_Script_traces => k_is)
      (case i_Script_traces => k_is)
      (case l_Script_traces => k_is)
      (case c_Script_traces => k_is)
      (case k_Script_traces => k_is)
      (case a_Script_play => k_is)
      (case i_Script_play => k_is)
      (case l_Script_play => k_is)
      (case c_Script_play => k_is)
      (case k_Script_play => k_is)
      (case ohn => first | k_is | rfl | kernel_rfl)
      (case otk => first | k_is | rfl | kernel_rfl)
      (case pg_File => k_is)
      (case hd_File => k_is)
      (case po_File => k_is)
      (case sa_File => k_is)
      (case ha_File => k_is)
      (case mr_File => first | k_is | kernel_rfl | rfl)
      (case mk_File => k_is)
      (case kc_File => k_is)
      (case na_File_row => k_is)
      (case pg_Full => k_is)
      (case hd_Full => k_is)
      (case po_Full => k_is)
      (case sa_Full => k_is)
      (case ha_Full => k_is)
      (case mr_Full => first | k_is | kernel_rfl | rfl)
      (case ms_Full => first | k_is | kernel_rfl | rfl)
      (case mk_Full => k_is)
      (case kc_Full => k_is)
      (case ii_Full => k_is)
      (case pg_Keep => k_is)
      (case hd_Keep => k_is)
      (case po_Keep => k_is)
      (case sa_Keep => k_is)
      (case ha_Keep => k_is)
      (case mr_Keep => first | k_is | kernel_rfl | rfl)
      (case ms_Keep => first | k_is | kernel_rfl | rfl)
      (case mk_Keep => k_is)
      (case kc_Keep => k_is)
      (case na_Keep_wide => k_is)
      (case pg_Lean => k_is)
      (case hd_Lean => k_is)
      (case po_Lean => k_is)
      (case sa_Lean => k_is)
      (case ha_Lean => k_is)
      (case mr_Lean => first | k_is | kernel_rfl | rfl)
      (case ms_Lean => first | k_is | kernel_rfl | rfl)
      (case mk_Lean => k_is)
      (case kc_Lean => k_is)
      (case na_Lean_wide => k_is)
      (case pg_Dig => k_is)
      (case hd_Dig => k_is)
      (case po_Dig => k_is)
      (case sa_Dig => k_is)
      (case ha_Dig => k_is)
      (case mr_Dig => first | k_is | kernel_rfl | rfl)
      (case ms_Dig => first | k_is | kernel_rfl | rfl)
      (case mk_Dig => k_is)
      (case kc_Dig => k_is)
      (case na_Dig_wide => k_is)
      (case pg_Script => k_is)
      (case hd_Script => k_is)
      (case po_Script => k_is)
      (case sa_Script => k_is)
      (case ha_Script => k_is)
      (case mr_Script => first | k_is | kernel_rfl | rfl)
      (case mk_Script => k_is)
      (case kc_Script => k_is)
      (case na_Script_rows => k_is)
      (case ic_Dig => k_is)
      (case tc_Dig => k_is)
      (case ic_Full => k_is)
      (case tc_Full => k_is)
      (case ic_Keep => k_is)
      (case tc_Keep => k_is)
      (case ic_Lean => k_is)
      (case tc_Lean => k_is)
      (case ic_Step => k_is)
      (case tc_Step => k_is)
      (case ah_Full_play => k_is)
      (case ah_Keep_play => k_is)
      (case ah_Lean_play => k_is)
      (case ah_Dig_play => k_is)
      (case ne_File => k_is)
      (case ne_Full => k_is)
      (case ne_Keep => k_is)
      (case ne_Lean => k_is)
      (case ne_Dig => k_is)
      (case ne_Script => k_is)
      (case sf_Script => first | k_is | kernel_rfl | rfl)
      (case s_Full_Dig => k_is)
      (case s_Full_Keep => k_is)
      (case s_Full_Lean => k_is)
      (case s_Full_Step => k_is)
      (case nf_Keep_Full => first | k_is | kernel_rfl | rfl)
      (case nf_Lean_Full => first | k_is | kernel_rfl | rfl)
      (case nf_Dig_Full => first | k_is | kernel_rfl | rfl)
      (case s_Keep_Dig => k_is)
      (case s_Keep_Full => k_is)
      (case s_Keep_Lean => k_is)
      (case s_Keep_Step => k_is)
      (case nf_Full_Keep => first | k_is | kernel_rfl | rfl)
      (case nf_Lean_Keep => first | k_is | kernel_rfl | rfl)
      (case nf_Dig_Keep => first | k_is | kernel_rfl | rfl)
      (case s_Lean_Dig => k_is)
      (case s_Lean_Full => k_is)
      (case s_Lean_Keep => k_is)
      (case s_Lean_Step => k_is)
      (case nf_Full_Lean => first | k_is | kernel_rfl | rfl)
      (case nf_Keep_Lean => first | k_is | kernel_rfl | rfl)
      (case nf_Dig_Lean => first | k_is | kernel_rfl | rfl)
      (case s_Dig_Full => k_is)
      (case s_Dig_Keep => k_is)
      (case s_Dig_Lean => k_is)
      (case s_Dig_Step => k_is)
      (case nf_Full_Dig => first | k_is | kernel_rfl | rfl)
      (case nf_Keep_Dig => first | k_is | kernel_rfl | rfl)
      (case nf_Lean_Dig => first | k_is | kernel_rfl | rfl)
      (case zop => k_is)
      (case ac_InvalidFile => k_is)
      (case ac_HoleError => k_is)
      (case xL_InvalidFile => k_is)
      (case sa_InvalidFile => k_is)
      (case nb_InvalidFile => k_is)
      (case i_InvalidFile => k_is)
      (case t_InvalidFile => k_is)
      (case l_InvalidFile => k_is)
      (case ld_InvalidFile => k_is)
      (case cd_InvalidFile => k_is)
      (case cr_InvalidFile => k_is)
      (case v2_InvalidFile => rfl)
      (case fl_InvalidFile => first | rfl | decide +kernel)
      (case clc_InvalidFile => k_is)
      (case al_InvalidFile => first | k_is | ks_is | kernel_rfl)
      (case sV_InvalidFile => k_is)
      (case eC_InvalidFile => k_is)
      (case sC_InvalidFile => first | k_is | kernel_rfl | rfl)
      (case kC_InvalidFile => k_is)
      (case tC_InvalidFile => k_is)
      (case ac_InvalidNumber => k_is)
      (case xL_InvalidNumber => k_is)
      (case sa_InvalidNumber => k_is)
      (case nb_InvalidNumber => k_is)
      (case i_InvalidNumber => k_is)
      (case t_InvalidNumber => k_is)
      (case l_InvalidNumber => k_is)
      (case ld_InvalidNumber => k_is)
      (case cd_InvalidNumber => k_is)
      (case cr_InvalidNumber => k_is)
      (case v2_InvalidNumber => rfl)
      (case fl_InvalidNumber => first | rfl | decide +kernel)
      (case clc_InvalidNumber => k_is)
      (case al_InvalidNumber => first | k_is | ks_is | kernel_rfl)
      (case sV_InvalidNumber => k_is)
      (case eC_InvalidNumber => k_is)
      (case sC_InvalidNumber => first | k_is | kernel_rfl | rfl)
      (case kC_InvalidNumber => k_is)
      (case tC_InvalidNumber => k_is)
      (case ac_InvalidScript => k_is)
      (case ac_InvalidList => k_is)
      (case xL_InvalidList => k_is)
      (case sa_InvalidList => k_is)
      (case nb_InvalidList => k_is)
      (case i_InvalidList => k_is)
      (case t_InvalidList => k_is)
      (case l_InvalidList => k_is)
      (case ld_InvalidList => k_is)
      (case cd_InvalidList => k_is)
      (case cr_InvalidList => k_is)
      (case v2_InvalidList => rfl)
      (case fl_InvalidList => first | rfl | decide +kernel)
      (case clc_InvalidList => k_is)
      (case al_InvalidList => first | k_is | ks_is | kernel_rfl)
      (case sV_InvalidList => k_is)
      (case eC_InvalidList => k_is)
      (case sC_InvalidList => first | k_is | kernel_rfl | rfl)
      (case kC_InvalidList => k_is)
      (case tC_InvalidList => k_is)


