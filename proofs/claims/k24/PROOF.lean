import PyProof.Rows.All
import Wide.All
import OpenK.AllK
import Wide.FinOn
import HandS.ForMost
import HandS.ForExc
import HandS.Property
import HandS.CallSlots
import HandS.Walk
import HandS.IsInst
import HandS.Wide
import HandS.WideBits
import HandS.ReplaceLit
import HandS.ReplaceList
import HandS.ExcInit
import HandS.ExcField
import HandS.ExcSuper
import KE.KExcSuper
import HandS.Style
import HandS.Dict
import HandS.More
import PyProof.NeKinds
import HandS.Text
import HandS.StrMore
import PyProof.Draws
import PyProof.EnumMake
import OpenK.KOps
import OpenK.KMeth
import KE.KOpsOwn
import KE.KFmtOwn
import PyProof.FactsAll.object_2
import PyProof.SliceStr2
import HandS.IterVal
import KE.KOwnIter
import PyProof.ListStr
import HandS.TryMany
import PyProof.LongRange
import HandS.TupAny
import HandS.TupSets
import HandS.OwnEq
import PySem.Challenge.RW_keptholes_k24_refused_comparisons
set_option Elab.async false
set_option linter.all false
set_option maxRecDepth 100000
set_option maxHeartbeats 1000000
namespace Kh
open PySem PySem.Spec L2

/-! ### data as trees -/
inductive Dat where
  | non | bl (b : Bool) | int (i : Int) | str (s : Str) | raw (v : V)
  | dic0 | scr (ns : List Int) | lst (xs : List Dat) | tup (xs : List Dat) | obj (C : Addr) (ns : List Str) (xs : List Dat)
  | xn (a dd : Addr) (ns : List Str) (xs : List Dat)
  | at (a : Addr) (d : Dat)

theorem Same.tpl {K : PySem.W.Frag} {H H' : Hp} {a : Addr} {xs : List V} (e : Same H H') (h : SqT K H a xs) : SqT K H' a xs := by
  rcases h with (h | ⟨o, h⟩) | h
  · exact .inl (.inl (e _ _ h))
  · exact .inl (.inr ⟨o, e _ _ h⟩)
  · exact .inr h

mutual
def Den (K : PySem.W.Frag) (G : Hp) : Dat → V → Prop
  | .non, v => v = .non
  | .bl b, v => v = .bl b
  | .int i, v => v = .int i
  | .str s, v => v = .str s
  | .raw u, v => v = u
  | .dic0, v => ∃ a, v = .ref a ∧ G a = some (.dK [])
  | .scr ns, v => ∃ a, v = .ref a ∧ SqL K G a (ns.map V.int)
  | .lst ds, v => ∃ a vs, v = .ref a ∧ G a = some (.lst vs) ∧ DenL K G ds vs
  | .tup ds, v => ∃ a vs, v = .ref a ∧ G a = some (.tup vs) ∧ DenL K G ds vs
  | .obj C ns ds, v => ∃ a dx vs, v = .ref a ∧ G a = some (.ins C dx (ns.zip vs)) ∧ G dx = some (.own a) ∧ DenL K G ds vs
  | .xn a dd ns ds, v => ∃ vs, v = .ref a ∧ G dd = some (.xd (ns.zip vs)) ∧ DenL K G ds vs
  | .at a d, v => v = .ref a ∧ Den K G d v
def DenL (K : PySem.W.Frag) (G : Hp) : List Dat → List V → Prop
  | [], vs => vs = []
  | d :: ds, vs => ∃ v r, vs = v :: r ∧ Den K G d v ∧ DenL K G ds r
end
section
variable {K : PySem.W.Frag} {G G' H H' : Hp}
mutual
theorem Den.mono (h : Same G G') : ∀ (d : Dat) (v : V), Den K G d v → Den K G' d v
  | .non, _, q => by simpa [Den] using q
  | .bl _, _, q => by simpa [Den] using q
  | .int _, _, q => by simpa [Den] using q
  | .str _, _, q => by simpa [Den] using q
  | .raw _, _, q => by simpa [Den] using q
  | .dic0, _, q => by
    simp only [Den] at q ⊢
    obtain ⟨a, e, g⟩ := q
    exact ⟨a, e, h _ _ g⟩
  | .scr _, _, q => by
    simp only [Den] at q ⊢
    obtain ⟨a, e, g⟩ := q
    exact ⟨a, e, h.seq g⟩
  | .lst ds, v, q => by
    simp only [Den] at q ⊢
    obtain ⟨a, vs, e, s, t⟩ := q
    exact ⟨a, vs, e, h _ _ s, DenL.mono h ds vs t⟩
  | .tup ds, v, q => by
    simp only [Den] at q ⊢
    obtain ⟨a, vs, e, s, t⟩ := q
    exact ⟨a, vs, e, h _ _ s, DenL.mono h ds vs t⟩
  | .obj C ns ds, v, q => by
    simp only [Den] at q ⊢
    obtain ⟨a, dx, vs, e, s, s2, t⟩ := q
    exact ⟨a, dx, vs, e, h _ _ s, h _ _ s2, DenL.mono h ds vs t⟩
  | .xn a dd ns ds, v, q => by
    simp only [Den] at q ⊢
    obtain ⟨vs, e, s, t⟩ := q
    exact ⟨vs, e, h _ _ s, DenL.mono h ds vs t⟩
  | .at a d, v, q => by
    simp only [Den] at q ⊢
    exact ⟨q.1, Den.mono h d v q.2⟩
theorem DenL.mono (h : Same G G') : ∀ (ds : List Dat) (vs : List V), DenL K G ds vs → DenL K G' ds vs
  | [], _, q => by simpa [DenL] using q
  | d :: ds, vs, q => by
    simp only [DenL] at q ⊢
    obtain ⟨v, r, e, s, t⟩ := q
    exact ⟨v, r, e, Den.mono h d v s, DenL.mono h ds r t⟩
end
theorem Den.up {d : Dat} {v : V} (q : Den K G d v) (h : Same G G') : Den K G' d v := Den.mono h d v q
theorem DenL.up {ds : List Dat} {vs : List V} (q : DenL K G ds vs) (h : Same G G') : DenL K G' ds vs := DenL.mono h ds vs q
theorem den_lst {a : Addr} {ds : List Dat} {vs : List V} (h : G a = some (.lst vs)) (q : DenL K G ds vs) : Den K G (.lst ds) (.ref a) := by
  simp only [Den]; exact ⟨a, vs, rfl, h, q⟩
theorem den_tup {a : Addr} {ds : List Dat} {vs : List V} (h : G a = some (.tup vs)) (q : DenL K G ds vs) : Den K G (.tup ds) (.ref a) := by
  simp only [Den]; exact ⟨a, vs, rfl, h, q⟩
theorem den_int {i : Int} : Den K G (.int i) (.int i) := by simp only [Den]
theorem den_bl {b : Bool} : Den K G (.bl b) (.bl b) := by simp only [Den]
theorem den_str {s : Str} : Den K G (.str s) (.str s) := by simp only [Den]
theorem den_non : Den K G .non .non := by simp only [Den]
theorem den_raw {v : V} : Den K G (.raw v) v := by simp only [Den]
theorem Den.lst_inv {ds : List Dat} {v : V} (q : Den K G (.lst ds) v) : ∃ a vs, v = .ref a ∧ G a = some (.lst vs) ∧ DenL K G ds vs := by simpa only [Den] using q
theorem Den.tup_inv {ds : List Dat} {v : V} (q : Den K G (.tup ds) v) : ∃ a vs, v = .ref a ∧ G a = some (.tup vs) ∧ DenL K G ds vs := by simpa only [Den] using q
theorem Den.obj_inv {C : Addr} {ns : List Str} {ds : List Dat} {v : V} (q : Den K G (.obj C ns ds) v) : ∃ a dx vs, v = .ref a ∧ G a = some (.ins C dx (ns.zip vs)) ∧ G dx = some (.own a) ∧ DenL K G ds vs := by simpa only [Den] using q
theorem Den.xn_inv {a dd : Addr} {ns : List Str} {ds : List Dat} {v : V} (q : Den K G (.xn a dd ns ds) v) : ∃ vs, v = .ref a ∧ G dd = some (.xd (ns.zip vs)) ∧ DenL K G ds vs := by simpa only [Den] using q
theorem Den.at_inv {a : Addr} {d : Dat} {v : V} (q : Den K G (.at a d) v) : v = .ref a ∧ Den K G d v := by simpa only [Den] using q
theorem den_at {a : Addr} {d : Dat} (h : Den K G d (.ref a)) : Den K G (.at a d) (.ref a) := by simp only [Den, true_and]; exact h
theorem Den.scr_inv {ns : List Int} {v : V} (q : Den K G (.scr ns) v) : ∃ a, v = .ref a ∧ SqL K G a (ns.map V.int) := by simpa only [Den] using q
theorem Den.dic0_inv {v : V} (q : Den K G .dic0 v) : ∃ a, v = .ref a ∧ G a = some (.dK []) := by simpa only [Den] using q
theorem Den.int_inv {i : Int} {v : V} (q : Den K G (.int i) v) : v = .int i := by simpa only [Den] using q
theorem Den.bl_inv {b : Bool} {v : V} (q : Den K G (.bl b) v) : v = .bl b := by simpa only [Den] using q
theorem Den.str_inv {s : Str} {v : V} (q : Den K G (.str s) v) : v = .str s := by simpa only [Den] using q
theorem Den.non_inv {v : V} (q : Den K G .non v) : v = .non := by simpa only [Den] using q
theorem Den.raw_inv {u v : V} (q : Den K G (.raw u) v) : v = u := by simpa only [Den] using q
theorem DenL.nil : DenL K G [] [] := by simp only [DenL]
theorem DenL.cons {d : Dat} {ds : List Dat} {v : V} {vs : List V} (h : Den K G d v) (q : DenL K G ds vs) : DenL K G (d :: ds) (v :: vs) := by
  simp only [DenL]; exact ⟨v, vs, rfl, h, q⟩
theorem DenL.nil_inv {vs : List V} (q : DenL K G [] vs) : vs = [] := by simpa only [DenL] using q
theorem DenL.cons_inv {d : Dat} {ds : List Dat} {vs : List V} (q : DenL K G (d :: ds) vs) : ∃ v r, vs = v :: r ∧ Den K G d v ∧ DenL K G ds r := by simpa only [DenL] using q
theorem DenL.length : ∀ {ds : List Dat} {vs : List V}, DenL K G ds vs → vs.length = ds.length
  | [], _, q => by rw [q.nil_inv]; rfl
  | d :: ds, _, q => by
    obtain ⟨v, r, rfl, _, t⟩ := q.cons_inv
    simp only [List.length_cons, t.length]
theorem DenL.get : ∀ {ds : List Dat} {vs : List V} {i : Nat} {d : Dat}, DenL K G ds vs → ds[i]? = some d → ∃ v, vs[i]? = some v ∧ Den K G d v
  | [], _, _, _, _, e => by simp at e
  | _ :: _, _, 0, _, q, e => by
    obtain ⟨v, r, rfl, h, _⟩ := q.cons_inv
    simp at e; subst e
    exact ⟨v, rfl, h⟩
  | _ :: _, _, i + 1, _, q, e => by
    obtain ⟨v, r, rfl, _, t⟩ := q.cons_inv
    obtain ⟨u, h1, h2⟩ := DenL.get t (i := i) (by simpa using e)
    exact ⟨u, by simpa using h1, h2⟩
theorem DenL.get' {ds : List Dat} {vs : List V} {i : Nat} {v : V} (q : DenL K G ds vs) (e : vs[i]? = some v) : ∃ d, ds[i]? = some d ∧ Den K G d v := by
  have hi : i < ds.length := by rw [← q.length]; exact (List.getElem?_eq_some_iff.mp e).1
  obtain ⟨u, h1, h2⟩ := q.get (List.getElem?_eq_getElem hi)
  rw [e] at h1; cases h1
  exact ⟨_, List.getElem?_eq_getElem hi, h2⟩
theorem DenL.append : ∀ {ds es : List Dat} {vs us : List V}, DenL K G ds vs → DenL K G es us → DenL K G (ds ++ es) (vs ++ us)
  | [], _, _, _, q, r => by rw [q.nil_inv]; exact r
  | _ :: _, _, _, _, q, r => by
    obtain ⟨v, t, rfl, h, q⟩ := q.cons_inv
    exact DenL.cons h (DenL.append q r)
theorem DenL.snoc {ds : List Dat} {d : Dat} {vs : List V} {v : V} (q : DenL K G ds vs) (h : Den K G d v) : DenL K G (ds ++ [d]) (vs ++ [v]) := q.append (.cons h .nil)
theorem DenL.take : ∀ {ds : List Dat} {vs : List V} (n : Nat), DenL K G ds vs → DenL K G (ds.take n) (vs.take n)
  | [], _, n, q => by rw [q.nil_inv]; simp only [List.take_nil]; exact .nil
  | _ :: _, _, 0, q => by simp only [List.take_zero]; exact .nil
  | _ :: _, _, n + 1, q => by
    obtain ⟨v, t, rfl, h, q⟩ := q.cons_inv
    exact DenL.cons h (DenL.take n q)
theorem DenL.drop : ∀ {ds : List Dat} {vs : List V} (n : Nat), DenL K G ds vs → DenL K G (ds.drop n) (vs.drop n)
  | [], _, n, q => by rw [q.nil_inv]; simp only [List.drop_nil]; exact .nil
  | _ :: _, _, 0, q => q
  | _ :: _, _, n + 1, q => by
    obtain ⟨v, t, rfl, h, q⟩ := q.cons_inv
    exact DenL.drop n q
theorem DenL.reverse : ∀ {ds : List Dat} {vs : List V}, DenL K G ds vs → DenL K G ds.reverse vs.reverse
  | [], _, q => by rw [q.nil_inv]; exact .nil
  | _ :: _, _, q => by
    obtain ⟨v, t, rfl, h, q⟩ := q.cons_inv
    simp only [List.reverse_cons]
    exact q.reverse.append (.cons h .nil)
theorem DenL.set {d : Dat} {v : V} (h : Den K G d v) : ∀ {ds : List Dat} {vs : List V} (i : Nat), DenL K G ds vs → DenL K G (ds.set i d) (vs.set i v)
  | [], _, _, q => by rw [q.nil_inv]; exact .nil
  | _ :: _, _, 0, q => by
    obtain ⟨u, t, rfl, _, q⟩ := q.cons_inv
    exact DenL.cons h q
  | _ :: _, _, i + 1, q => by
    obtain ⟨u, t, rfl, g, q⟩ := q.cons_inv
    exact DenL.cons g (DenL.set h i q)
theorem DenL.dropLast {ds : List Dat} {vs : List V} (q : DenL K G ds vs) : DenL K G ds.dropLast vs.dropLast := by
  rw [List.dropLast_eq_take, List.dropLast_eq_take, q.length]
  exact q.take _
/-- lists of ints, texts, bools by their values -/
theorem DenL.ints : ∀ {ns : List Int} {vs : List V}, DenL K G (ns.map Dat.int) vs → vs = ns.map V.int
  | [], _, q => q.nil_inv
  | n :: ns, _, q => by
    obtain ⟨v, t, rfl, h, q⟩ := q.cons_inv
    rw [h.int_inv, DenL.ints q]
    all_goals rfl
theorem denL_ints : ∀ {ns : List Int}, DenL K G (ns.map Dat.int) (ns.map V.int)
  | [] => .nil
  | n :: ns => .cons den_int denL_ints
theorem DenL.strs : ∀ {ns : List Str} {vs : List V}, DenL K G (ns.map Dat.str) vs → vs = ns.map V.str
  | [], _, q => q.nil_inv
  | n :: ns, _, q => by
    obtain ⟨v, t, rfl, h, q⟩ := q.cons_inv
    rw [h.str_inv, DenL.strs q]
    all_goals rfl
theorem denL_strs : ∀ {ns : List Str}, DenL K G (ns.map Dat.str) (ns.map V.str)
  | [] => .nil
  | n :: ns => .cons den_str denL_strs
end

/-! ### the slots -/
abbrev TEnv := List (Option Dat)
def DenE (K : PySem.W.Frag) (τ : TEnv) (G : Hp) (σ : St) : Prop := ∀ (i : Nat) (d : Dat), τ[i]? = some (some d) → ∃ v, σ[i]? = some (some v) ∧ Den K G d v
section
variable {K : PySem.W.Frag} {G G' : Hp} {τ : TEnv} {σ : St}
theorem DenE.up (q : DenE K τ G σ) (h : Same G G') : DenE K τ G' σ := fun i d e => let ⟨v, h1, h2⟩ := q i d e; ⟨v, h1, h2.up h⟩
theorem DenE.unset {i : Nat} (q : DenE K τ G σ) : DenE K (τ.set i none) G (σ.set i none) := fun j e hj => by
  by_cases c : i = j
  · subst c
    have hl : i < τ.length := by
      have := (List.getElem?_eq_some_iff.mp hj).1
      simpa using this
    rw [List.getElem?_set_self hl] at hj
    cases hj
  · rw [List.getElem?_set_ne c] at hj
    obtain ⟨u, h1, h2⟩ := q j e hj
    exact ⟨u, by rw [List.getElem?_set_ne c]; exact h1, h2⟩
theorem DenE.set {i : Nat} {d : Dat} {v : V} (q : DenE K τ G σ) (hi : i < σ.length) (h : Den K G d v) : DenE K (τ.set i (some d)) G (σ.set i (some v)) := fun j e hj => by
  by_cases c : i = j
  · subst c
    have hl : i < τ.length := by
      have := (List.getElem?_eq_some_iff.mp hj).1
      simpa using this
    rw [List.getElem?_set_self hl] at hj
    cases hj
    exact ⟨v, List.getElem?_set_self hi, h⟩
  · rw [List.getElem?_set_ne c] at hj
    obtain ⟨u, h1, h2⟩ := q j e hj
    exact ⟨u, by rw [List.getElem?_set_ne c]; exact h1, h2⟩
end

/-! ### what may change -/
inductive MC where
  | lst (ds : List Dat) | ins (C dx : Addr) (fs : List (Str × Dat)) | dic (kvs : List (Key × Dat))
abbrev Mem := List (Addr × MC)
def adr1 : Addr × MC → List Addr
  | (p, .ins _ dx _) => [p, dx]
  | (p, _) => [p]
def adr (M : Mem) : List Addr := M.flatMap adr1
/-- names with data against names with values -/
def DenF (K : PySem.W.Frag) (G : Hp) {κ : Type} (fs : List (κ × Dat)) (vs : List (κ × V)) : Prop := vs.map (·.1) = fs.map (·.1) ∧ DenL K G (fs.map (·.2)) (vs.map (·.2))
def MH (K : PySem.W.Frag) (G H : Hp) : Addr × MC → Prop
  | (p, .lst ds) => ∃ vs, H p = some (.lst vs) ∧ DenL K G ds vs
  | (p, .ins C dx fs) => ∃ vs, H p = some (.ins C dx vs) ∧ H dx = some (.own p) ∧ DenF K G fs vs
  | (p, .dic kvs) => ∃ vs, H p = some (.dK vs) ∧ DenF K G kvs vs
structure Hst (K : PySem.W.Frag) (G : Hp) (M : Mem) (H : Hp) : Prop where
  sub : Same G H
  mem : ∀ c ∈ M, MH K G H c
  out : ∀ b ∈ adr M, G b = none
  nd : (adr M).Nodup
structure Stp (G : Hp) (M : Mem) (H G2 : Hp) (M2 : Mem) (H2 : Hp) : Prop where
  gg : Same G G2
  hh : ∀ b o, b ∉ adr M → H b = some o → H2 b = some o
  fr : ∀ b, H b ≠ none → b ∉ adr M → G b = none → G2 b = none
  ad : ∀ b ∈ adr M2, b ∈ adr M ∨ H b = none
section
variable {K : PySem.W.Frag} {G G1 G2 G3 H H1 H2 H3 : Hp} {M M1 M2 M3 : Mem}
theorem DenF.up {κ : Type} {fs : List (κ × Dat)} {vs : List (κ × V)} (q : DenF K G fs vs) (h : Same G G1) : DenF K G1 fs vs := ⟨q.1, q.2.up h⟩
theorem Stp.refl : Stp G M H G M H := ⟨Same.refl _, fun _ _ _ e => e, fun _ _ _ e => e, fun _ h => .inl h⟩
theorem Stp.trans (a : Stp G M H G1 M1 H1) (b : Stp G1 M1 H1 G2 M2 H2) : Stp G M H G2 M2 H2 where
  gg := a.gg.trans b.gg
  hh := fun c o n e => by
    refine b.hh c o (fun z => ?_) (a.hh c o n e)
    rcases a.ad c z with z | z
    · exact n z
    · rw [e] at z; cases z
  fr := fun c hc n g => by
    have z1 : c ∉ adr M1 := fun z => by
      rcases a.ad c z with z | z
      · exact n z
      · exact hc z
    refine b.fr c (fun z => ?_) z1 (a.fr c hc n g)
    cases e : H c with
    | none => exact hc e
    | some o => rw [a.hh c o n e] at z; cases z
  ad := fun c h => by
    rcases b.ad c h with z | z
    · exact a.ad c z
    · refine (Classical.em (c ∈ adr M)).imp id fun n => ?_
      cases e : H c with
      | none => rfl
      | some o => rw [a.hh c o n e] at z; cases z
theorem MH.up {c : Addr × MC} (q : MH K G H c) (h : Same G G1) (e : ∀ b ∈ adr1 c, ∀ o, H b = some o → H1 b = some o) : MH K G1 H1 c := by
  obtain ⟨p, c⟩ := c
  cases c with
  | lst ds => obtain ⟨vs, h1, h2⟩ := q; exact ⟨vs, e p (by simp [adr1]) _ h1, h2.up h⟩
  | ins C dx fs => obtain ⟨vs, h1, h2, h3⟩ := q; exact ⟨vs, e p (by simp [adr1]) _ h1, e dx (by simp [adr1]) _ h2, h3.up h⟩
  | dic kvs => obtain ⟨vs, h1, h2⟩ := q; exact ⟨vs, e p (by simp [adr1]) _ h1, h2.up h⟩
theorem MH.there {c : Addr × MC} (q : MH K G H c) : ∀ b ∈ adr1 c, H b ≠ none := by
  obtain ⟨p, c⟩ := c
  intro b hb z
  cases c with
  | lst ds =>
    obtain ⟨vs, h1, h2⟩ := q
    have hb : b = p := by simpa [adr1] using hb
    rw [hb, h1] at z; cases z
  | ins C dx fs =>
    obtain ⟨vs, h1, h2, h3⟩ := q
    have hb : b = p ∨ b = dx := by simpa [adr1] using hb
    rcases hb with rfl | rfl
    · rw [h1] at z; cases z
    · rw [h2] at z; cases z
  | dic kvs =>
    obtain ⟨vs, h1, h2⟩ := q
    have hb : b = p := by simpa [adr1] using hb
    rw [hb, h1] at z; cases z
theorem Hst.there (h : Hst K G M H) : ∀ b ∈ adr M, H b ≠ none := fun b hb => by
  obtain ⟨c, hc, hb⟩ := List.mem_flatMap.mp hb
  exact (h.mem c hc).there b hb
theorem adr_append {A B : Mem} : adr (A ++ B) = adr A ++ adr B := by unfold adr; exact List.flatMap_append
theorem adr_perm {A B : Mem} (p : A.Perm B) : (adr A).Perm (adr B) := by unfold adr; exact p.flatMap_right _
theorem Hst.perm (h : Hst K G M H) (p : M.Perm M1) : Hst K G M1 H :=
  ⟨h.sub, fun c hc => h.mem c (p.mem_iff.mpr hc), fun b hb => h.out b ((adr_perm p).mem_iff.mpr hb), (adr_perm p).nodup_iff.mp h.nd⟩
theorem Stp.perm {A B : Mem} (s : Stp G M H G2 M2 H2) (p : M.Perm A) (q : M2.Perm B) : Stp G A H G2 B H2 :=
  ⟨s.gg, fun b o n e => s.hh b o (fun z => n ((adr_perm p).mem_iff.mp z)) e, fun b hb n g => s.fr b hb (fun z => n ((adr_perm p).mem_iff.mp z)) g,
    fun b hb => (s.ad b ((adr_perm q).mem_iff.mpr hb)).imp (fun z => (adr_perm p).mem_iff.mp z) id⟩
/-- a part of what may change -/
theorem Hst.left {A B : Mem} (h : Hst K G (A ++ B) H) : Hst K G A H :=
  ⟨h.sub, fun c hc => h.mem c (List.mem_append_left _ hc), fun b hb => h.out b (by rw [adr_append]; exact List.mem_append_left _ hb), by
    have := h.nd; rw [adr_append] at this; exact (List.nodup_append.mp this).1⟩
/-- the rest stays -/
theorem Stp.frame {A A2 B : Mem} (h : Hst K G (A ++ B) H) (s : Stp G A H G2 A2 H2) (h2 : Hst K G2 A2 H2) : Stp G (A ++ B) H G2 (A2 ++ B) H2 ∧ Hst K G2 (A2 ++ B) H2 := by
  have nd := h.nd
  rw [adr_append] at nd
  obtain ⟨n1, n2, n3⟩ := List.nodup_append.mp nd
  have nB : ∀ b ∈ adr B, b ∉ adr A := fun b hb ha => n3 b ha b hb rfl
  have th : ∀ b ∈ adr B, H b ≠ none := fun b hb => h.there b (by rw [adr_append]; exact List.mem_append_right _ hb)
  refine ⟨⟨s.gg, fun b o n e => s.hh b o (fun z => n (by rw [adr_append]; exact List.mem_append_left _ z)) e, fun b hb n g => s.fr b hb (fun z => n (by rw [adr_append]; exact List.mem_append_left _ z)) g, fun b hb => ?_⟩, h2.sub, fun c hc => ?_, fun b hb => ?_, ?_⟩
  · rw [adr_append] at hb ⊢
    rcases List.mem_append.mp hb with z | z
    · exact (s.ad b z).imp (fun y => List.mem_append_left _ y) id
    · exact .inl (List.mem_append_right _ z)
  · rcases List.mem_append.mp hc with z | z
    · exact h2.mem c z
    · exact (h.mem c (List.mem_append_right _ z)).up s.gg fun b hb o e => s.hh b o (nB b (List.mem_flatMap.mpr ⟨c, z, hb⟩)) e
  · rw [adr_append] at hb
    rcases List.mem_append.mp hb with z | z
    · exact h2.out b z
    · exact s.fr b (th b z) (nB b z) (h.out b (by rw [adr_append]; exact List.mem_append_right _ z))
  · rw [adr_append]
    refine List.nodup_append.mpr ⟨h2.nd, n2, fun a ha b hb e => ?_⟩
    subst e
    rcases s.ad a ha with z | z
    · exact nB a hb z
    · exact th a hb z
/-- a new thing of the unchanging part -/
theorem Stp.new {p : Addr} {o : HO} (h : Hst K G M H) (hp : H p = none) : Stp G M H (upd G p o) M (upd H p o) ∧ Hst K (upd G p o) M (upd H p o) := by
  have gp : G p = none := h.sub.free hp
  have nM : ∀ b ∈ adr M, b ≠ p := fun b hb e => h.there b hb (by rw [e]; exact hp)
  refine ⟨⟨fun b u e => ?_, fun b u _ e => ?_, fun b hb _ g => ?_, fun b hb => .inl hb⟩, fun b u e => ?_, fun c hc => (h.mem c hc).up (fun b u e => ?_) fun b hb u e => ?_, fun b hb => ?_, h.nd⟩
  · rw [upd_ne (ne_of_none e gp)]; exact e
  · rw [upd_ne (ne_of_none e hp)]; exact e
  · rw [upd_ne (fun e => hb (by rw [e]; exact hp))]; exact g
  · by_cases c : b = p
    · subst c; rw [upd_same] at e ⊢; exact e
    · rw [upd_ne c] at e ⊢; exact h.sub b u e
  · rw [upd_ne (ne_of_none e gp)]; exact e
  · rw [upd_ne (nM b (List.mem_flatMap.mpr ⟨c, hc, hb⟩))]; exact e
  · rw [upd_ne (nM b hb)]; exact h.out b hb
end
end Kh

set_option Elab.async false
set_option linter.all false
set_option maxRecDepth 100000
set_option maxHeartbeats 1000000
namespace Kh
open PySem PySem.Spec L2
open PyProof.Rows (isTrue_plain isTrue_not isTrue_and isTrue_or isTrue_and_nil isTrue_or_nil BoolOp_one BoolOp_and BoolOp_or UnaryOp_ not_of)

/-! ### the weakest readings; T: a token is out already -/
def Tk (T : Bool) (s : Shared) : Prop := T = true → 1 ≤ s.toks
theorem tk_f {s : Shared} : Tk false s := fun h => nomatch h
section
variable {α : Type} {t : Sem α} {Q Q' : α → Shared → Prop} {M : Model} {A : Around} {E : Value → Shared → Prop} {s : Shared} {T : Bool}
theorem thnT (hT : Tk T s) (h : wpAny M A t Q E s) (hQ : ∀ a s', Tk T s' → Q a s' → Q' a s') : wpAny M A t Q' E s := by
  cases T with
  | false => exact thn h fun a s' q => hQ a s' tk_f q
  | true => exact wpAny_with_toks (hT rfl) (wpAny_mono h (fun a s' q k => hQ a s' (fun _ => k) q) fun _ _ x _ => x)
end
def tW (X : Cx) (T : Bool) (e : Expr) : TE := fun σ H Q => ∀ pins s, Tk T s → Inv X pins σ H s → wpAny (model X.prog X.w) X.A (eval e X.env) (EP X pins σ Q) X.xe s
def tWT (X : Cx) (T : Bool) (e : Expr) : TT := fun σ H Q => ∀ pins s, Tk T s → Inv X pins σ H s → wpAny (model X.prog X.w) X.A (isTrue e X.env (eval e X.env)) (TP X pins σ Q) X.xe s
def tWW (X : Cx) (T : Bool) (e : Expr) : TT := fun σ H Q => ∀ whole pins s, Tk T s → Inv X pins σ H s → wpAny (model X.prog X.w) X.A (isTrue e X.env whole) (TP X pins σ Q) X.xe s
def tWA (X : Cx) (T : Bool) (es : List Expr) : TA := fun σ H Q => ∀ (pos : Pos) pins s, Tk T s → Inv X pins σ H s → wpAny (model X.prog X.w) X.A (spliced (backTo pos (starEach es X.env))) (AP X pins σ Q) X.xe s
def tWS (X : Cx) (T : Bool) (st : Stmt) : TS := fun D σ H => ∀ pins s, Tk T s → Inv X pins σ H s → wpAny (model X.prog X.w) X.A (exec st X.env) (SP X pins D) X.xe s
def tWSs (X : Cx) (T : Bool) (ss : List Stmt) : TS := fun D σ H => ∀ pins s, Tk T s → Inv X pins σ H s → wpAny (model X.prog X.w) X.A (execs ss X.env) (SP X pins D) X.xe s
def tWI (X : Cx) (T : Bool) (tg iter : Expr) : TI := fun σ H R => ∀ pins s, Tk T s → Inv X pins σ H s → wpAny (model X.prog X.w) X.A (eval iter X.env) (fun v s1 => wpAny (model X.prog X.w) X.A (pyIter v) (PIE X pins σ tg R) X.xe s1) X.xe s
def tWG (X : Cx) (T : Bool) (target : Expr) : TG := fun v σ H Q => ∀ pins s u, Tk T s → Inv X pins σ H s → RelV v u → wpAny (model X.prog X.w) X.A (assign target X.env u) (fun _ s' => ∃ σ' H', Inv X pins σ' H' s' ∧ Q σ' H') X.xe s
def tWGs (X : Cx) (T : Bool) (ts : List Expr) : TGs := fun vs σ H Q => ∀ pins s us, Tk T s → Inv X pins σ H s → Vals vs us → wpAny (model X.prog X.w) X.A (assignInOrder ((assignEach ts X.env).map (·.2)) us) (fun _ s' => ∃ σ' H', Inv X pins σ' H' s' ∧ Q σ' H') X.xe s
def rW (X : Cx) (T : Bool) (f : Value → Value → Sem Value) : R2 := fun x y H Q => ∀ pins s σ v u, Tk T s → Inv X pins σ H s → RelV x v → RelV y u → wpAny (model X.prog X.w) X.A (f v u) (EP X pins σ Q) X.xe s
section
variable {X : Cx} {T : Bool} {e a b c : Expr} {es rest' : List Expr} {st : Stmt} {ss rest : List Stmt} {tg iter : Expr} {pos : Pos} {σ : L2.St} {H : Hp} {Q : VK} {QT : Bool → Hp → Prop} {D : Ends}
theorem tW_of {t : TE} (h : PE X e t) (q : t σ H Q) : tW X T e σ H Q := fun pins s _ I => h.run pins s σ H Q I q
theorem tWT_of {t : TT} (h : PT X e t) (q : t σ H QT) : tWT X T e σ H QT := fun pins s _ I => h.run pins s σ H QT I q
theorem tWA_of {t : TA} {Q : List V → Hp → Prop} (h : PA X es t) (q : t σ H Q) : tWA X T es σ H Q := fun pos pins s _ I => h.run pos pins s σ H Q I q
theorem tWS_of {t : TS} (h : PS X st t) (q : t D σ H) : tWS X T st D σ H := fun pins s _ I => h.run pins s σ H D I q
theorem tWSs_of {t : TS} (h : PSs X ss t) (q : t D σ H) : tWSs X T ss D σ H := fun pins s _ I => h.run pins s σ H D I q
theorem tWI_of {t : TI} {R : It → Hp → Prop} (h : PI X tg iter t) (q : t σ H R) : tWI X T tg iter σ H R := fun pins s _ I => h.run pins s σ H R I q
theorem tWG_of {t : TG} {v : V} {Q : L2.St → Hp → Prop} (h : PG X tg t) (q : t v σ H Q) : tWG X T tg v σ H Q := fun pins s u _ I r => h.run pins s σ H v u Q I r q
theorem rW_of {f : Value → Value → Sem Value} {r : R2} {x y : V} (h : OpR X f r) (q : r x y H Q) : rW X T f x y H Q := fun pins s σ v u _ I rx ry => h pins s σ H x y v u Q I rx ry q
/-- without the token -/
theorem pe_W : PE X e (tW X false e) := ⟨fun pins s _ _ _ I h => h pins s tk_f I⟩
theorem pt_W : PT X e (tWT X false e) := ⟨fun pins s _ _ _ I h => h pins s tk_f I⟩
theorem pa_W : PA X es (tWA X false es) := ⟨fun pos pins s _ _ _ I h => h pos pins s tk_f I⟩
theorem pss_W : PSs X ss (tWSs X false ss) := ⟨fun pins s _ _ _ I h => h pins s tk_f I⟩
theorem pi_W : PI X tg iter (tWI X false tg iter) := ⟨fun pins s _ _ _ I h => h pins s tk_f I⟩
theorem pg_W : PG X tg (tWG X false tg) := ⟨fun pins s _ _ _ u _ I r h => h pins s u tk_f I r⟩
theorem tW_len (h : σ.length = X.N.length → tW X T e σ H Q) : tW X T e σ H Q := fun pins s k I => h I.len pins s k I
theorem tWSs_len (h : σ.length = X.N.length → tWSs X T ss D σ H) : tWSs X T ss D σ H := fun pins s k I => h I.len pins s k I
theorem tWG_len {v : V} {Q : L2.St → Hp → Prop} (h : σ.length = X.N.length → tWG X T tg v σ H Q) : tWG X T tg v σ H Q := fun pins s u k I r => h I.len pins s u k I r
/-! the constructs, from the readings of their parts -/
theorem w_two {f : Value → Value → Sem Value} (q : tW X T a σ H fun x H1 => tW X T b σ H1 fun y H2 => rW X T f x y H2 Q) {pins : List (Addr × Obj)} {s : Shared} (k : Tk T s) (I : Inv X pins σ H s) :
    wpAny (model X.prog X.w) X.A (eval a X.env) (fun v s₁ => wpAny (model X.prog X.w) X.A (eval b X.env) (fun u s₂ => wpAny (model X.prog X.w) X.A (f v u) (EP X pins σ Q) X.xe s₂) X.xe s₁) X.xe s :=
  thnT k (q pins s k I) fun v s1 k1 ⟨x, H1, I1, r1, q1⟩ => thnT k1 (q1 pins s1 k1 I1) fun u s2 k2 ⟨y, H2, I2, r2, q2⟩ => q2 pins s2 σ v u k2 I2 r1 r2
theorem w_bin {op : Operator} (q : tW X T a σ H fun x H1 => tW X T b σ H1 fun y H2 => rW X T (binaryOp op) x y H2 Q) : tW X T (.BinOp a op b pos) σ H Q := fun pins s k I => wpAny_BinOp (w_two q k I)
theorem w_cmp {op : CmpOp} (hm : behindInMarks op b = false) (q : tW X T a σ H fun x H1 => tW X T b σ H1 fun y H2 => rW X T (compareOp op) x y H2 Q) : tW X T (.Compare a [op] [b] pos) σ H Q := fun pins s k I => wpAny_Compare1 (w_two q k I) hm
theorem w_val (he : ∀ whole, isTrue e X.env whole = (do let v ← whole; standAt e.pos; holding [v] (truthy v))) (q : tW X T e σ H fun x H1 => ∃ c, x = .bl c ∧ QT c H1) : tWT X T e σ H QT := fun pins s k I =>
  isTrue_plain (thnT k (q pins s k I) fun v s1 _ ⟨x, H1, I1, r1, c, ec, q1⟩ => by subst ec; cases r1; exact wpAny_truthy_bool ⟨H1, I1, q1⟩) (he _)
theorem w_cmpT {op : CmpOp} (hm : behindInMarks op b = false) (q : tW X T a σ H fun x H1 => tW X T b σ H1 fun y H2 => rW X T (compareOp op) x y H2 fun z H3 => ∃ c, z = .bl c ∧ QT c H3) : tWT X T (.Compare a [op] [b] pos) σ H QT := fun pins s k I =>
  wpAny_isTrue_Compare1 (thnT k (w_two q k I) fun v s1 _ h1 => thn h1 fun u s2 h2 => thn h2 fun cv s3 ⟨x, H1, I1, r1, c, ec, q1⟩ => by subst ec; cases r1; exact wpAny_truthy_bool ⟨H1, I1, q1⟩) hm
theorem w_not (q : tWT X T a σ H fun c H1 => QT (!c) H1) : tWT X T (.UnaryOp .Not a pos) σ H QT := fun pins s k I => isTrue_not (q pins s k I)
theorem w_and1 (q : tWT X T a σ H QT) : tWW X T (.BoolOp .And [a] pos) σ H QT := fun wh pins s k I => isTrue_and (thn (q pins s k I) fun c s1 e => by
  cases c with
  | true => exact isTrue_and_nil e
  | false => exact e)
theorem w_or1 (q : tWT X T a σ H QT) : tWW X T (.BoolOp .Or [a] pos) σ H QT := fun wh pins s k I => isTrue_or (thn (q pins s k I) fun c s1 e => by
  cases c with
  | false => exact isTrue_or_nil e
  | true => exact e)
theorem w_and (q : tWT X T a σ H fun c H1 => if c = true then tWW X T (.BoolOp .And (b :: rest') pos) σ H1 QT else QT false H1) : tWW X T (.BoolOp .And (a :: b :: rest') pos) σ H QT := fun wh pins s k I =>
  isTrue_and (thnT k (q pins s k I) fun c s1 k1 ⟨H1, I1, q1⟩ => by
    cases c with
    | true => exact q1 wh pins s1 k1 I1
    | false => exact ⟨H1, I1, q1⟩)
theorem w_or (q : tWT X T a σ H fun c H1 => if c = true then QT true H1 else tWW X T (.BoolOp .Or (b :: rest') pos) σ H1 QT) : tWW X T (.BoolOp .Or (a :: b :: rest') pos) σ H QT := fun wh pins s k I =>
  isTrue_or (thnT k (q pins s k I) fun c s1 k1 ⟨H1, I1, q1⟩ => by
    cases c with
    | false => exact q1 wh pins s1 k1 I1
    | true => exact ⟨H1, I1, q1⟩)
theorem v_one {op} (q : tW X T a σ H Q) : tW X T (.BoolOp op [a] pos) σ H Q := fun pins s k I => BoolOp_one (q pins s k I)
theorem v_and (q : tW X T a σ H fun x H1 => ∃ c, x = .bl c ∧ if c = true then tW X T (.BoolOp .And (b :: rest') pos) σ H1 Q else Q (.bl false) H1) : tW X T (.BoolOp .And (a :: b :: rest') pos) σ H Q := fun pins s k I =>
  BoolOp_and (thnT k (q pins s k I) fun v s1 k1 ⟨x, H1, I1, r1, c, ec, q1⟩ => by
    subst ec; cases r1
    refine wpAny_truthy_bool ?_
    cases c with
    | true => exact q1 pins s1 k1 I1
    | false => exact ⟨.bl false, H1, I1, rfl, q1⟩)
theorem v_or (q : tW X T a σ H fun x H1 => ∃ c, x = .bl c ∧ if c = true then Q (.bl true) H1 else tW X T (.BoolOp .Or (b :: rest') pos) σ H1 Q) : tW X T (.BoolOp .Or (a :: b :: rest') pos) σ H Q := fun pins s k I =>
  BoolOp_or (thnT k (q pins s k I) fun v s1 k1 ⟨x, H1, I1, r1, c, ec, q1⟩ => by
    subst ec; cases r1
    refine wpAny_truthy_bool ?_
    cases c with
    | false => exact q1 pins s1 k1 I1
    | true => exact ⟨.bl true, H1, I1, rfl, q1⟩)
theorem v_not (q : tW X T a σ H fun x H1 => ∃ c, x = .bl c ∧ Q (.bl (!c)) H1) : tW X T (.UnaryOp .Not a pos) σ H Q := fun pins s k I =>
  UnaryOp_ (thn (q pins s k I) fun v s1 ⟨x, H1, I1, r1, c, ec, q1⟩ => by subst ec; cases r1; exact not_of (wpAny_truthy_bool ⟨.bl (!c), H1, I1, rfl, q1⟩))
theorem v_if (q : tWT X T c σ H fun k H1 => if k = true then tW X T a σ H1 Q else tW X T b σ H1 Q) : tW X T (.IfExp c a b pos) σ H Q := fun pins s k I =>
  wpAny_IfExp (thnT k (q pins s k I) fun d s1 k1 ⟨H1, I1, q1⟩ => by
    cases d with
    | true => exact q1 pins s1 k1 I1
    | false => exact q1 pins s1 k1 I1)
theorem wa_cons {Q : List V → Hp → Prop} (hs : starEach (e :: es) X.env = (false, eval e X.env) :: starEach es X.env) (q : tW X T e σ H fun x H1 => tWA X T es σ H1 fun xs H2 => Q (x :: xs) H2) : tWA X T (e :: es) σ H Q := fun pos pins s k I => by
  rw [hs]
  show wpAny _ _ (spliced ((false, eval e X.env) :: backTo pos (starEach es X.env))) _ _ s
  exact Calls.spliced_cons (thnT k (q pins s k I) fun u s1 k1 ⟨x, H1, I1, r1, q1⟩ => thn (q1 pos pins s1 k1 I1) fun us s2 ⟨xs, H2, I2, r2, q2⟩ => ⟨x :: xs, H2, I2, .cons r1 r2, q2⟩)
/-! statements -/
theorem ws_step' (q : tWS X T st { D with nx := tWSs X T rest D } σ H) : tWSs X T (st :: rest) D σ H := fun pins s k I =>
  wpAny_execs_cons (thnT k (q pins s k I) fun f s1 k1 h => by
    cases f with
    | next => obtain ⟨σ', H', I', h⟩ := h; exact h pins s1 k1 I'
    | ret v => exact h
    | brk => exact h
    | cont => exact h)
theorem s_ret (q : tW X T e σ H D.rt) : tWS X T (.Return (some e) pos) D σ H := fun pins s k I => wpAny_Return_some (thn (q pins s k I) fun v s1 ⟨x, H1, I1, r1, q1⟩ => ⟨x, σ, H1, I1, r1, q1⟩)
theorem s_expr (hs : swapsWith e none pos.line X.env = pure false) (q : tW X T e σ H fun _ H1 => D.nx σ H1) : tWS X T (.Expr e pos) D σ H := fun pins s k I =>
  wpAny_Expr_any (thn (q pins s k I) fun v s1 ⟨x, H1, I1, r1, q1⟩ => ⟨σ, H1, I1, q1⟩) I.quiet hs
theorem s_if {t : Expr} {p q : List Stmt} (h : tWT X T t σ H fun k H1 => if k = true then tWSs X T p D σ H1 else tWSs X T q D σ H1) : tWS X T (.If t p q pos) D σ H := fun pins s k I =>
  wpAny_If (thnT k (h pins s k I) fun d s1 k1 ⟨H1, I1, q1⟩ => by
    cases d with
    | true => exact q1 pins s1 k1 I1
    | false => exact q1 pins s1 k1 I1)
theorem s_asg (hs : swapsWithSole [tg] e pos.line X.env = pure false) (hw : swappedStores [tg] e X.env = pure none) (h1 : (assignEach [tg] X.env).map (·.2) = [assign tg X.env]) (q : tW X T e σ H fun x H1 => tWG X T tg x σ H1 D.nx) : tWS X T (.Assign [tg] e pos) D σ H := fun pins s k I =>
  wpAny_Assign_stores (thnT k (q pins s k I) fun v s1 k1 ⟨x, H1, I1, r1, q1⟩ => by
    rw [h1]
    exact thn (q1 pins s1 v k1 I1 r1) fun _ s2 q => q) hs hw
theorem s_set {i : Nat} {x : Str} {pos' : Pos} (hN : X.N.Nodup) (hi : X.N[i]? = some x) (hx : Loc X.env.scope x) (hs : swapsWith e (some (.Name x pos')) pos.line X.env = pure false) (hf : X.fn x = true ∨ X.env.scope.names.lookup x = some .local)
    (q : tW X T e σ H fun v H1 => D.nx (σ.set i (some v)) H1) : tWS X T (.Assign [.Name x pos'] e pos) D σ H := fun pins s k I =>
  wpAny_Assign_Name (thn (q pins s k I) fun v s1 ⟨y, H1, I1, r1, q1⟩ => store_ok I1 hN hi hx r1 (fun s2 I2 => ⟨_, H1, I2, q1⟩) hf) hs
end

/-! ### exceptions, ends -/
/-- an exception: its class, its own fields -/
structure Exn where
  C : Addr
  ns : List Str
  ds : List Dat
def DenX (K : PySem.W.Frag) (G H : Hp) (x : Exn) (d : Option Addr) : Prop := (x.ns = [] ∧ x.ds = []) ∨ ∃ dd vs, d = some dd ∧ G dd = some (.xd (x.ns.zip vs)) ∧ DenL K G x.ds vs
inductive Out where
  | nx (τ : TEnv) | rt (d : Dat) | bk (τ : TEnv) | ct (τ : TEnv) | ex (x : Exn) (τ : TEnv)
abbrev RK := Out → Mem → Prop
abbrev PK' := Dat → Mem → Prop
abbrev XKx := Exn → Mem → Prop
section
variable (K : PySem.W.Frag)
def CE' (G : Hp) (M : Mem) (H : Hp) (P : PK') (Q : VK) : Prop := ∀ d M2 v G2 H2, P d M2 → Stp G M H G2 M2 H2 → Hst K G2 M2 H2 → Den K G2 d v → Q v H2
def CT' (G : Hp) (M : Mem) (H : Hp) (P : Bool → Mem → Prop) (Q : Bool → Hp → Prop) : Prop := ∀ b M2 G2 H2, P b M2 → Stp G M H G2 M2 H2 → Hst K G2 M2 H2 → Q b H2
def CA' (G : Hp) (M : Mem) (H : Hp) (P : List Dat → Mem → Prop) (Q : List V → Hp → Prop) : Prop := ∀ ds M2 vs G2 H2, P ds M2 → Stp G M H G2 M2 H2 → Hst K G2 M2 H2 → DenL K G2 ds vs → Q vs H2
def CX' (G : Hp) (M : Mem) (H : Hp) (E : XKx) (T : Value → Option Addr → Hp → Prop) : Prop := ∀ x M2 G2 H2 d, E x M2 → Stp G M H G2 M2 H2 → Hst K G2 M2 H2 → DenX K G2 H2 x d → T (.ref x.C) d H2
def OutOk (G2 H2 : Hp) (D : Ends) (W : WX) : Out → Prop
  | .nx τ => ∀ σ, DenE K τ G2 σ → D.nx σ H2
  | .rt d => ∀ v, Den K G2 d v → D.rt v H2
  | .bk τ => ∀ σ, DenE K τ G2 σ → D.bk σ H2
  | .ct τ => ∀ σ, DenE K τ G2 σ → D.ct σ H2
  | .ex x τ => ∀ σ d, DenE K τ G2 σ → DenX K G2 H2 x d → W (.ref x.C) d σ H2
def CS' (G : Hp) (M : Mem) (H : Hp) (R : RK) (D : Ends) (W : WX) : Prop := ∀ o M2 G2 H2, R o M2 → Stp G M H G2 M2 H2 → Hst K G2 M2 H2 → OutOk K G2 H2 D W o
/-- the target of a store -/
def CG' (G : Hp) (M : Mem) (H : Hp) (P : TEnv → Mem → Prop) (Q : L2.St → Hp → Prop) : Prop := ∀ τ M2 G2 H2 σ, P τ M2 → Stp G M H G2 M2 H2 → Hst K G2 M2 H2 → DenE K τ G2 σ → Q σ H2
end
section
variable {K : PySem.W.Frag} {G G1 H H1 : Hp} {M M1 : Mem}
theorem CE'.step {P : PK'} {Q : VK} (c : CE' K G M H P Q) (s : Stp G M H G1 M1 H1) : CE' K G1 M1 H1 P Q := fun d M2 v G2 H2 p s2 h dv => c d M2 v G2 H2 p (s.trans s2) h dv
theorem CT'.step {P : Bool → Mem → Prop} {Q : Bool → Hp → Prop} (c : CT' K G M H P Q) (s : Stp G M H G1 M1 H1) : CT' K G1 M1 H1 P Q := fun d M2 G2 H2 p s2 h => c d M2 G2 H2 p (s.trans s2) h
theorem CA'.step {P : List Dat → Mem → Prop} {Q : List V → Hp → Prop} (c : CA' K G M H P Q) (s : Stp G M H G1 M1 H1) : CA' K G1 M1 H1 P Q := fun d M2 v G2 H2 p s2 h dv => c d M2 v G2 H2 p (s.trans s2) h dv
theorem CX'.step {E : XKx} {T : Value → Option Addr → Hp → Prop} (c : CX' K G M H E T) (s : Stp G M H G1 M1 H1) : CX' K G1 M1 H1 E T := fun x M2 G2 H2 d p s2 h dv => c x M2 G2 H2 d p (s.trans s2) h dv
theorem CS'.step {R : RK} {D : Ends} {W : WX} (c : CS' K G M H R D W) (s : Stp G M H G1 M1 H1) : CS' K G1 M1 H1 R D W := fun o M2 G2 H2 p s2 h => c o M2 G2 H2 p (s.trans s2) h
theorem CG'.step {P : TEnv → Mem → Prop} {Q : L2.St → Hp → Prop} (c : CG' K G M H P Q) (s : Stp G M H G1 M1 H1) : CG' K G1 M1 H1 P Q := fun d M2 v G2 H2 p s2 h dv => c d M2 v G2 H2 p (s.trans s2) h dv
end

/-! ### the judgements: in the slots τ and the cells M, e gives a value and cells that P takes, or lets out what E takes -/
structure EX (X : Cx) (T : Bool) (e : Expr) (τ : TEnv) (M : Mem) (P : PK') (E : XKx) : Prop where
  run : ∀ W, Takes X W → ∀ σ G H, DenE X.K τ G σ → Hst X.K G M H → ∀ Q, CE' X.K G M H P Q → CX' X.K G M H E (fun c d H2 => W c d σ H2) → tW X T e σ H Q
structure ET (X : Cx) (T : Bool) (e : Expr) (τ : TEnv) (M : Mem) (P : Bool → Mem → Prop) (E : XKx) : Prop where
  run : ∀ W, Takes X W → ∀ σ G H, DenE X.K τ G σ → Hst X.K G M H → ∀ Q, CT' X.K G M H P Q → CX' X.K G M H E (fun c d H2 => W c d σ H2) → tWT X T e σ H Q
structure EA (X : Cx) (T : Bool) (es : List Expr) (τ : TEnv) (M : Mem) (P : List Dat → Mem → Prop) (E : XKx) : Prop where
  run : ∀ W, Takes X W → ∀ σ G H, DenE X.K τ G σ → Hst X.K G M H → ∀ Q, CA' X.K G M H P Q → CX' X.K G M H E (fun c d H2 => W c d σ H2) → tWA X T es σ H Q
structure WS (X : Cx) (T : Bool) (ss : List Stmt) (τ : TEnv) (M : Mem) (R : RK) : Prop where
  run : ∀ W, Takes X W → ∀ σ G H, DenE X.K τ G σ → Hst X.K G M H → ∀ D, CS' X.K G M H R D W → tWSs X T ss D σ H
/-- a value is stored at a target -/
structure GX (X : Cx) (T : Bool) (tg : Expr) (d : Dat) (τ : TEnv) (M : Mem) (P : TEnv → Mem → Prop) (E : XKx) : Prop where
  run : ∀ W, Takes X W → ∀ σ G H v, DenE X.K τ G σ → Hst X.K G M H → Den X.K G d v → ∀ Q, CG' X.K G M H P Q → CX' X.K G M H E (fun c d H2 => W c d σ H2) → tWG X T tg v σ H Q
/-- operations by values -/
def OP (X : Cx) (T : Bool) (f : Value → Value → Sem Value) (x y : Dat) (M : Mem) (P : PK') : Prop :=
  ∀ G H v u, Hst X.K G M H → Den X.K G x v → Den X.K G y u → ∀ Q, CE' X.K G M H P Q → rW X T f v u H Q
def BC (X : Cx) (f : Value) (ds : List Dat) (M : Mem) (P : PK') : Prop :=
  ∃ r, CallR X f r ∧ ∀ G H vs, Hst X.K G M H → DenL X.K G ds vs → ∀ Q, CE' X.K G M H P Q → r vs H Q
abbrev E0' : XKx := fun _ _ => False
theorem noX {K : PySem.W.Frag} {G H : Hp} {M : Mem} {T : Value → Option Addr → Hp → Prop} : CX' K G M H E0' T := fun _ _ _ _ _ h => h.elim

section
variable {X : Cx} {T : Bool} {τ : TEnv} {M : Mem} {P : PK'} {E : XKx} {e a b c : Expr} {es : List Expr} {pos : Pos}
/-- weakening -/
theorem EX.imp {P' : PK'} {E' : XKx} (h : EX X T e τ M P' E') (hp : ∀ d M2, P' d M2 → P d M2) (hx : ∀ x M2, E' x M2 → E x M2) : EX X T e τ M P E :=
  .mk fun W tk σ G H hE hH Q hP hX => h.run W tk σ G H hE hH Q (fun d M2 v G2 H2 p => hP d M2 v G2 H2 (hp _ _ p)) (fun x M2 G2 H2 d p => hX x M2 G2 H2 d (hx _ _ p))
theorem EX.nox (h : EX X T e τ M P E0') : EX X T e τ M P E := h.imp (fun _ _ p => p) fun _ _ p => p.elim
theorem ET.nox {P : Bool → Mem → Prop} (h : ET X T e τ M P E0') : ET X T e τ M P E := .mk fun W tk σ G H hE hH Q hP _ => h.run W tk σ G H hE hH Q hP noX
/-! ### names and constants -/
theorem ex_at {i : Nat} {x : Str} {d : Dat} (hN : X.N[i]? = some x) (hv : Vis X.env.scope x) (ht : τ[i]? = some (some d)) (h : P d M) (hd : (x == ("__debug__" : Str)) = false := by decide) (hcd : (x == ("__classdict__" : Str)) = false := by decide) :
    EX X T (.Name x pos) τ M P E := .mk fun W tk σ G H hE hH Q hP hX => by
  obtain ⟨v, h1, h2⟩ := hE i d ht
  exact tW_of (pe_var hN hv hd hcd) ⟨v, h1, hP d M v G H h Stp.refl hH h2⟩
/-- the place of a name -/
def ixIn (N : List Str) (x : Str) : Nat := N.findIdx (· == x)
theorem ex_var {x : Str} {d : Dat} (ht : X.N[ixIn X.N x]? = some x ∧ τ[ixIn X.N x]? = some (some d)) (h : P d M) (hv : Vis X.env.scope x := by first | exact Or.inl rfl | exact Or.inr (Or.inl rfl) | exact Or.inr (Or.inr rfl))
    (hd : (x == ("__debug__" : Str)) = false := by decide) (hcd : (x == ("__classdict__" : Str)) = false := by decide) : EX X T (.Name x pos) τ M P E := ex_at ht.1 hv ht.2 h hd hcd
theorem ex_c {v : V} {d : Dat} (hp : PE X e (tC v)) (hd : ∀ G, Den X.K G d v) (h : P d M) : EX X T e τ M P E := .mk fun W tk σ G H hE hH Q hP hX => tW_of hp (hP d M v G H h Stp.refl hH (hd G))
theorem ex_int {i j pos} (h : P (.int i) M) : EX X T (.Constant (.int i) j pos) τ M P E := ex_c pe_int (fun _ => den_int) h
theorem ex_bl {i j pos} (h : P (.bl i) M) : EX X T (.Constant (.bool i) j pos) τ M P E := ex_c pe_bl (fun _ => den_bl) h
theorem ex_non {j pos} (h : P .non M) : EX X T (.Constant .none j pos) τ M P E := ex_c pe_non (fun _ => den_non) h
theorem ex_str {i j pos} (h : P (.str i) M) : EX X T (.Constant (.str i) j pos) τ M P E := ex_c pe_str (fun _ => den_str) h
theorem ex_gstr {x : Str} {z : Str} {t : Tok} (hm : X.mg x = some (.str z t)) (h : P (.str z) M) (hg : Gl X x := by rfl) (hd : (x == ("__debug__" : Str)) = false := by decide) : EX X T (.Name x pos) τ M P E := ex_c (pe_glob (v := .str z) hg hm ⟨t, rfl⟩ hd) (fun _ => den_str) h
theorem ex_gref {x : Str} {q : Addr} (hm : X.mg x = some (.ref q)) (h : P (.raw (.ref q)) M) (hg : Gl X x := by rfl) (hd : (x == ("__debug__" : Str)) = false := by decide) : EX X T (.Name x pos) τ M P E := ex_c (pe_glob (v := .ref q) hg hm rfl hd) (fun _ => den_raw) h

/-! ### operators -/
theorem ex_bin {op : Operator} (h : EX X T a τ M (fun x M1 => EX X T b τ M1 (fun y M2 => OP X T (binaryOp op) x y M2 P) E) E) : EX X T (.BinOp a op b pos) τ M P E := by
  refine .mk ?_; intro W tk σ G H hE hH Q hP hX
  refine w_bin ?_
  refine h.run W tk σ G H hE hH _ ?_ hX
  intro x M1 v G1 H1 hb s1 h1 dx
  refine hb.run W tk σ G1 H1 (hE.up s1.gg) h1 _ ?_ (hX.step s1)
  intro y M2 u G2 H2 ho s2 h2 dy
  exact ho G2 H2 v u h2 (dx.up s2.gg) dy Q (hP.step (s1.trans s2))
theorem ex_cmp {op : CmpOp} (h : EX X T a τ M (fun x M1 => EX X T b τ M1 (fun y M2 => OP X T (compareOp op) x y M2 P) E) E) (hm : behindInMarks op b = false := by first | exact nomark _ | rfl) : EX X T (.Compare a [op] [b] pos) τ M P E := by
  refine .mk ?_; intro W tk σ G H hE hH Q hP hX
  refine w_cmp hm ?_
  refine h.run W tk σ G H hE hH _ ?_ hX
  intro x M1 v G1 H1 hb s1 h1 dx
  refine hb.run W tk σ G1 H1 (hE.up s1.gg) h1 _ ?_ (hX.step s1)
  intro y M2 u G2 H2 ho s2 h2 dy
  exact ho G2 H2 v u h2 (dx.up s2.gg) dy Q (hP.step (s1.trans s2))
theorem op_of {f : Value → Value → Sem Value} {r : R2} {x y : Dat} (ho : OpR X f r) (h : ∀ G H v u, Hst X.K G M H → Den X.K G x v → Den X.K G y u → ∀ Q, CE' X.K G M H P Q → r v u H Q) : OP X T f x y M P :=
  fun G H v u hH dx dy Q hP => rW_of ho (h G H v u hH dx dy Q hP)
theorem op_II {f : Value → Value → Sem Value} {g : Int → Int → V} {i j : Int} {d : Dat} (ho : OpR X f (rI0 g)) (hd : ∀ G, Den X.K G d (g i j)) (h : P d M) : OP X T f (.int i) (.int j) M P :=
  op_of ho fun G H v u hH dx dy Q hP => ⟨i, j, dx.int_inv, dy.int_inv, hP _ _ _ _ _ h Stp.refl hH (hd G)⟩
theorem op_IIc {f : Value → Value → Sem Value} {C : Int → Int → Prop} {g : Int → Int → V} {i j : Int} {d : Dat} (ho : OpR X f (rI C g)) (hc : C i j) (hd : ∀ G, Den X.K G d (g i j)) (h : P d M) : OP X T f (.int i) (.int j) M P :=
  op_of ho fun G H v u hH dx dy Q hP => ⟨i, j, dx.int_inv, dy.int_inv, hc, hP _ _ _ _ _ h Stp.refl hH (hd G)⟩
theorem o_add {i j : Int} (h : P (.int (i + j)) M) : OP X T (binaryOp .Add) (.int i) (.int j) M P := op_II op_add (fun _ => den_int) h
theorem o_sub {i j : Int} (h : P (.int (i - j)) M) : OP X T (binaryOp .Sub) (.int i) (.int j) M P := op_II op_sub (fun _ => den_int) h
theorem o_lt {i j : Int} (h : P (.bl (decide (i < j))) M) : OP X T (compareOp .Lt) (.int i) (.int j) M P := op_II op_lt (fun _ => den_bl) h
theorem o_le {i j : Int} (h : P (.bl (decide (i ≤ j))) M) : OP X T (compareOp .LtE) (.int i) (.int j) M P := op_II op_le (fun _ => den_bl) h
theorem o_gt {i j : Int} (h : P (.bl (decide (j < i))) M) : OP X T (compareOp .Gt) (.int i) (.int j) M P := op_II op_gt (fun _ => den_bl) h
theorem o_ge {i j : Int} (h : P (.bl (decide (j ≤ i))) M) : OP X T (compareOp .GtE) (.int i) (.int j) M P := op_II op_ge (fun _ => den_bl) h

/-! ### tests -/
theorem et_val {Pb : Bool → Mem → Prop} (h : EX X T e τ M (fun d M1 => ∃ k, d = .bl k ∧ Pb k M1) E) (he : ∀ whole, isTrue e X.env whole = (do let v ← whole; standAt e.pos; holding [v] (truthy v)) := by intro _; rfl) : ET X T e τ M Pb E := by
  refine .mk ?_; intro W tk σ G H hE hH Q hP hX
  refine w_val he ?_
  refine h.run W tk σ G H hE hH _ ?_ hX
  intro d M1 v G1 H1 ⟨k, ek, hk⟩ s1 h1 dv
  subst ek
  exact ⟨k, dv.bl_inv, hP k M1 G1 H1 hk s1 h1⟩
theorem et_cmp {op : CmpOp} {Pb : Bool → Mem → Prop} (h : EX X T a τ M (fun x M1 => EX X T b τ M1 (fun y M2 => OP X T (compareOp op) x y M2 fun d M3 => ∃ k, d = .bl k ∧ Pb k M3) E) E) (hm : behindInMarks op b = false := by first | exact nomark _ | rfl) :
    ET X T (.Compare a [op] [b] pos) τ M Pb E := by
  refine .mk ?_; intro W tk σ G H hE hH Q hP hX
  refine w_cmpT hm ?_
  refine h.run W tk σ G H hE hH _ ?_ hX
  intro x M1 v G1 H1 hb s1 h1 dx
  refine hb.run W tk σ G1 H1 (hE.up s1.gg) h1 _ ?_ (hX.step s1)
  intro y M2 u G2 H2 ho s2 h2 dy
  refine ho G2 H2 v u h2 (dx.up s2.gg) dy _ ?_
  intro d M3 w G3 H3 ⟨k, ek, hk⟩ s3 h3 dw
  subst ek
  exact ⟨k, dw.bl_inv, hP k M3 G3 H3 hk ((s1.trans s2).trans s3) h3⟩
theorem et_not {Pb : Bool → Mem → Prop} (h : ET X T a τ M (fun k M1 => Pb (!k) M1) E) : ET X T (.UnaryOp .Not a pos) τ M Pb E := by
  refine .mk ?_; intro W tk σ G H hE hH Q hP hX
  refine w_not ?_
  refine h.run W tk σ G H hE hH _ ?_ hX
  intro k M1 G1 H1 hk s1 h1
  exact hP _ M1 G1 H1 hk s1 h1
/-- and, or: the rest -/
structure EW (X : Cx) (T : Bool) (e : Expr) (τ : TEnv) (M : Mem) (P : Bool → Mem → Prop) (E : XKx) : Prop where
  run : ∀ W, Takes X W → ∀ σ G H, DenE X.K τ G σ → Hst X.K G M H → ∀ Q, CT' X.K G M H P Q → CX' X.K G M H E (fun c d H2 => W c d σ H2) → tWW X T e σ H Q
theorem ew_and1 {Pb : Bool → Mem → Prop} (h : ET X T a τ M Pb E) : EW X T (.BoolOp .And [a] pos) τ M Pb E := .mk fun W tk σ G H hE hH Q hP hX => w_and1 (h.run W tk σ G H hE hH Q hP hX)
theorem ew_or1 {Pb : Bool → Mem → Prop} (h : ET X T a τ M Pb E) : EW X T (.BoolOp .Or [a] pos) τ M Pb E := .mk fun W tk σ G H hE hH Q hP hX => w_or1 (h.run W tk σ G H hE hH Q hP hX)
theorem ew_and {Pb : Bool → Mem → Prop} {rest : List Expr} (h : ET X T a τ M (fun k M1 => (k = true → EW X T (.BoolOp .And (b :: rest) pos) τ M1 Pb E) ∧ (k = false → Pb false M1)) E) : EW X T (.BoolOp .And (a :: b :: rest) pos) τ M Pb E := by
  refine .mk ?_; intro W tk σ G H hE hH Q hP hX
  refine w_and ?_
  refine h.run W tk σ G H hE hH _ ?_ hX
  intro k M1 G1 H1 ⟨h1, h2⟩ s1 hs1
  cases k with
  | true => exact iteT ((h1 rfl).run W tk σ G1 H1 (hE.up s1.gg) hs1 Q (hP.step s1) (hX.step s1))
  | false => exact iteF (hP _ _ _ _ (h2 rfl) s1 hs1)
theorem ew_or {Pb : Bool → Mem → Prop} {rest : List Expr} (h : ET X T a τ M (fun k M1 => (k = true → Pb true M1) ∧ (k = false → EW X T (.BoolOp .Or (b :: rest) pos) τ M1 Pb E)) E) : EW X T (.BoolOp .Or (a :: b :: rest) pos) τ M Pb E := by
  refine .mk ?_; intro W tk σ G H hE hH Q hP hX
  refine w_or ?_
  refine h.run W tk σ G H hE hH _ ?_ hX
  intro k M1 G1 H1 ⟨h1, h2⟩ s1 hs1
  cases k with
  | true => exact iteT (hP _ _ _ _ (h1 rfl) s1 hs1)
  | false => exact iteF ((h2 rfl).run W tk σ G1 H1 (hE.up s1.gg) hs1 Q (hP.step s1) (hX.step s1))
theorem et_w {Pb : Bool → Mem → Prop} (h : EW X T e τ M Pb E) : ET X T e τ M Pb E := .mk fun W tk σ G H hE hH Q hP hX => by
  have := h.run W tk σ G H hE hH Q hP hX
  exact fun pins s k I => this _ pins s k I
theorem ET.imp {P P' : Bool → Mem → Prop} {E' : XKx} (h : ET X T e τ M P' E') (hp : ∀ d M2, P' d M2 → P d M2) (hx : ∀ x M2, E' x M2 → E x M2) : ET X T e τ M P E :=
  .mk fun W tk σ G H hE hH Q hP hX => h.run W tk σ G H hE hH Q (fun d M2 G2 H2 p => hP d M2 G2 H2 (hp _ _ p)) (fun x M2 G2 H2 d p => hX x M2 G2 H2 d (hx _ _ p))
/-- as values -/
theorem ex_and1 {op} (h : EX X T a τ M P E) : EX X T (.BoolOp op [a] pos) τ M P E := .mk fun W tk σ G H hE hH Q hP hX => v_one (h.run W tk σ G H hE hH Q hP hX)
theorem ex_and {rest : List Expr} (h : EX X T a τ M (fun d M1 => ∃ k, d = .bl k ∧ (k = true → EX X T (.BoolOp .And (b :: rest) pos) τ M1 P E) ∧ (k = false → P (.bl false) M1)) E) : EX X T (.BoolOp .And (a :: b :: rest) pos) τ M P E := by
  refine .mk ?_; intro W tk σ G H hE hH Q hP hX
  refine v_and ?_
  refine h.run W tk σ G H hE hH _ ?_ hX
  intro d M1 v G1 H1 ⟨k, ek, h1, h2⟩ s1 hs1 dv
  subst ek
  refine ⟨k, dv.bl_inv, ?_⟩
  cases k with
  | true => exact iteT ((h1 rfl).run W tk σ G1 H1 (hE.up s1.gg) hs1 Q (hP.step s1) (hX.step s1))
  | false => exact iteF (hP _ _ _ _ _ (h2 rfl) s1 hs1 den_bl)
theorem ex_or {rest : List Expr} (h : EX X T a τ M (fun d M1 => ∃ k, d = .bl k ∧ (k = true → P (.bl true) M1) ∧ (k = false → EX X T (.BoolOp .Or (b :: rest) pos) τ M1 P E)) E) : EX X T (.BoolOp .Or (a :: b :: rest) pos) τ M P E := by
  refine .mk ?_; intro W tk σ G H hE hH Q hP hX
  refine v_or ?_
  refine h.run W tk σ G H hE hH _ ?_ hX
  intro d M1 v G1 H1 ⟨k, ek, h1, h2⟩ s1 hs1 dv
  subst ek
  refine ⟨k, dv.bl_inv, ?_⟩
  cases k with
  | true => exact iteT (hP _ _ _ _ _ (h1 rfl) s1 hs1 den_bl)
  | false => exact iteF ((h2 rfl).run W tk σ G1 H1 (hE.up s1.gg) hs1 Q (hP.step s1) (hX.step s1))
theorem ex_not (h : EX X T a τ M (fun d M1 => ∃ k, d = .bl k ∧ P (.bl (!k)) M1) E) : EX X T (.UnaryOp .Not a pos) τ M P E := by
  refine .mk ?_; intro W tk σ G H hE hH Q hP hX
  refine v_not ?_
  refine h.run W tk σ G H hE hH _ ?_ hX
  intro d M1 v G1 H1 ⟨k, ek, h1⟩ s1 hs1 dv
  subst ek
  exact ⟨k, dv.bl_inv, hP _ _ _ _ _ h1 s1 hs1 den_bl⟩
theorem ex_if {t : Expr} (h : ET X T t τ M (fun k M1 => (k = true → EX X T a τ M1 P E) ∧ (k = false → EX X T b τ M1 P E)) E) : EX X T (.IfExp t a b pos) τ M P E := by
  refine .mk ?_; intro W tk σ G H hE hH Q hP hX
  refine v_if ?_
  refine h.run W tk σ G H hE hH _ ?_ hX
  intro k M1 G1 H1 ⟨h1, h2⟩ s1 hs1
  cases k with
  | true => exact iteT ((h1 rfl).run W tk σ G1 H1 (hE.up s1.gg) hs1 Q (hP.step s1) (hX.step s1))
  | false => exact iteF ((h2 rfl).run W tk σ G1 H1 (hE.up s1.gg) hs1 Q (hP.step s1) (hX.step s1))

/-! ### arguments, displays -/
theorem ea_nil {P : List Dat → Mem → Prop} (h : P [] M) : EA X T [] τ M P E := .mk fun W tk σ G H hE hH Q hP hX => tWA_of pa_nil (hP _ _ _ _ _ h Stp.refl hH .nil)
theorem ea_cons {P : List Dat → Mem → Prop} (h : EX X T e τ M (fun d M1 => EA X T es τ M1 (fun ds M2 => P (d :: ds) M2) E) E) (hs : starEach (e :: es) X.env = (false, eval e X.env) :: starEach es X.env := by rfl) : EA X T (e :: es) τ M P E := by
  refine .mk ?_; intro W tk σ G H hE hH Q hP hX
  refine wa_cons hs ?_
  refine h.run W tk σ G H hE hH _ ?_ hX
  intro d M1 v G1 H1 hb s1 h1 dv
  refine hb.run W tk σ G1 H1 (hE.up s1.gg) h1 _ ?_ (hX.step s1)
  intro ds M2 vs G2 H2 ho s2 h2 dvs
  exact hP (d :: ds) M2 (v :: vs) G2 H2 ho (s1.trans s2) h2 (.cons (dv.up s2.gg) dvs)
theorem v_tup {x1} {σ : L2.St} {H : Hp} {Q : VK} (q : tWA X T es σ H fun xs H1 => xs.length ≤ sizeLine ∧ ∀ p, H1 p = none → Q (.ref p) (upd H1 p (.tup xs))) : tW X T (.Tuple es x1 pos) σ H Q := fun pins s k I =>
  wpAny_Tuple_spliced (thn (q pos pins s k I) fun us s1 ⟨xs, H1, I1, r, z, q1⟩ => ⟨by rw [← r.length]; exact z, by
    have hf : H1 s1.heap.objs.size = none := I1.hok.fresh (Nat.le_refl _)
    exact ⟨.ref s1.heap.objs.size, upd H1 s1.heap.objs.size (.tup xs), I1.laid (t' := s1.toks) (fun b u e => Heap.get?_push_of_some _ e) (Nat.le_refl _) ⟨z, us, r, ⟨_, Heap.get?_push_size _ rfl, rfl, _, rfl⟩⟩, rfl, q1 _ hf⟩⟩)
theorem v_lst {σ : L2.St} {H : Hp} {Q : VK} (q : tWA X T es σ H fun xs H1 => xs.length ≤ sizeLine ∧ ∀ p, H1 p = none → Q (.ref p) (upd H1 p (.lst xs))) : tW X T (.List es pos) σ H Q := fun pins s k I =>
  wpAny_List_spliced (thn (q pos pins s k I) fun us s1 ⟨xs, H1, I1, r, z, q1⟩ => ⟨by rw [← r.length]; exact z, by
    have hf : H1 s1.heap.objs.size = none := I1.hok.fresh (Nat.le_refl _)
    exact ⟨.ref s1.heap.objs.size, upd H1 s1.heap.objs.size (.lst xs), I1.laid (t' := s1.toks) (fun b u e => Heap.get?_push_of_some _ e) (Nat.le_refl _) ⟨z, us, 0, r, Heap.get?_push_size _ rfl⟩, rfl, q1 _ hf⟩⟩)
theorem ex_tup {x1} (h : EA X T es τ M (fun ds M1 => ds.length ≤ sizeLine ∧ P (.tup ds) M1) E) : EX X T (.Tuple es x1 pos) τ M P E := by
  refine .mk ?_; intro W tk σ G H hE hH Q hP hX
  refine v_tup ?_
  refine h.run W tk σ G H hE hH _ ?_ hX
  intro ds M1 vs G1 H1 ⟨hl, hp⟩ s1 h1 dvs
  refine ⟨by rw [dvs.length]; exact hl, fun p hp' => ?_⟩
  obtain ⟨s2, h2⟩ := Stp.new (o := .tup vs) h1 hp'
  exact hP _ _ _ _ _ hp (s1.trans s2) h2 (den_tup upd_same (dvs.up s2.gg))
theorem ex_lst (h : EA X T es τ M (fun ds M1 => ds.length ≤ sizeLine ∧ P (.lst ds) M1) E) : EX X T (.List es pos) τ M P E := by
  refine .mk ?_; intro W tk σ G H hE hH Q hP hX
  refine v_lst ?_
  refine h.run W tk σ G H hE hH _ ?_ hX
  intro ds M1 vs G1 H1 ⟨hl, hp⟩ s1 h1 dvs
  refine ⟨by rw [dvs.length]; exact hl, fun p hp' => ?_⟩
  obtain ⟨s2, h2⟩ := Stp.new (o := .lst vs) h1 hp'
  exact hP _ _ _ _ _ hp (s1.trans s2) h2 (den_lst upd_same (dvs.up s2.gg))
/-! ### calls of built-ins -/
theorem ex_callB {x : Str} {p : Pos} {id : String} (hm : X.mg x = none) (hv : bootBuiltins x = some (.builtin id)) (h : EA X T (e :: es) τ M (fun ds M1 => BC X (.builtin id) ds M1 P) E) (hg : Gl X x := by rfl) (hn : x ≠ "__name__" := by decide) (hdb : (x == ("__debug__" : Str)) = false := by decide)
    (he : starEach (e :: es) X.env = (false, eval e X.env) :: starEach es X.env := by rfl) (hpl : (backTo pos (starEach es X.env)).any (·.1) = false := by rfl) : EX X T (.Call (.Name x p) (e :: es) [] pos) τ M P E := by
  refine .mk ?_; intro W tk σ G H hE hH Q hP hX pins s k I
  have hA := h.run W tk σ G H hE hH (fun vs H1 => ∃ r, CallR X (.builtin id) r ∧ r vs H1 Q) (fun ds M1 vs G1 H1 ⟨r, hr, hb⟩ s1 h1 dvs => ⟨r, hr, hb G1 H1 vs h1 dvs Q (hP.step s1)⟩) hX
  refine wpAny_Call_Name_kw (ld_blt I hg hm hv ?_ hn hdb)
  exact PyProof.Rows.callWith_builtin1 (thn (hA pos pins s k I) fun us s1 ⟨vs, H1, I1, r1, r, hr, q1⟩ => hr pins s1 σ H1 vs us Q I1 r1 q1) he hpl
theorem ex_callTy {x : Str} {p : Pos} {T' : String} (hm : X.mg x = none) (hv : bootBuiltins x = some (.type T')) (h : EA X T (e :: es) τ M (fun ds M1 => BC X (.type T') ds M1 P) E) (hg : Gl X x := by rfl) (hn : x ≠ "__name__" := by decide) (hdb : (x == ("__debug__" : Str)) = false := by decide)
    (he : starEach (e :: es) X.env = (false, eval e X.env) :: starEach es X.env := by rfl) (hpl : (backTo pos (starEach es X.env)).any (·.1) = false := by rfl) : EX X T (.Call (.Name x p) (e :: es) [] pos) τ M P E := by
  refine .mk ?_; intro W tk σ G H hE hH Q hP hX pins s k I
  have hA := h.run W tk σ G H hE hH (fun vs H1 => ∃ r, CallR X (.type T') r ∧ r vs H1 Q) (fun ds M1 vs G1 H1 ⟨r, hr, hb⟩ s1 h1 dvs => ⟨r, hr, hb G1 H1 vs h1 dvs Q (hP.step s1)⟩) hX
  refine wpAny_Call_Name_kw (ld_blt I hg hm hv ?_ hn hdb)
  exact PyProof.Rows.callWith_type1 (thn (hA pos pins s k I) fun us s1 ⟨vs, H1, I1, r1, r, hr, q1⟩ => hr pins s1 σ H1 vs us Q I1 r1 q1) he hpl
end

/-! ### statements -/
/-- what follows the statements of a suite -/
def thenR (k : TEnv → Mem → Prop) (R : RK) : RK
  | .nx τ, M => k τ M
  | o, M => R o M
/-- a loop's body -/
def loopR (N k : TEnv → Mem → Prop) (R : RK) : RK
  | .nx τ, M => N τ M
  | .ct τ, M => N τ M
  | .bk τ, M => k τ M
  | .rt d, M => R (.rt d) M
  | .ex x τ, M => R (.ex x τ) M
section
variable {X : Cx} {T : Bool} {τ : TEnv} {M : Mem} {R : RK} {e a b c : Expr} {es : List Expr} {pos : Pos} {rest : List Stmt}
theorem ex_out {K : PySem.W.Frag} {G H : Hp} {D : Ends} {W : WX} {σ : L2.St} (hP : CS' K G M H R D W) (hE : DenE K τ G σ) : CX' K G M H (fun x M' => R (.ex x τ) M') (fun c d H2 => W c d σ H2) :=
  fun x M2 G2 H2 d r s h dx => hP _ _ _ _ r s h σ d (hE.up s.gg) dx
theorem ws_nil (h : R (.nx τ) M) : WS X T [] τ M R := .mk fun W tk σ G H hE hH D hR => tWSs_of pss_nil (hR _ _ _ _ h Stp.refl hH σ hE)
/-- a statement by its own rule, the rest behind it -/
theorem ws_step {st : Stmt} {t : TS} {D : Ends} {σ : L2.St} {H : Hp} (h : PS X st t) (q : t { D with nx := tWSs X T rest D } σ H) : tWSs X T (st :: rest) D σ H := ws_step' (tWS_of h q)
theorem ws_pass (h : WS X T rest τ M R) : WS X T (.Pass pos :: rest) τ M R := .mk fun W tk σ G H hE hH D hR => ws_step ps_pass (h.run W tk σ G H hE hH D hR)
theorem ws_break (h : R (.bk τ) M) : WS X T (.Break pos :: rest) τ M R := .mk fun W tk σ G H hE hH D hR => ws_step ps_break (hR _ _ _ _ h Stp.refl hH σ hE)
theorem ws_cont (h : R (.ct τ) M) : WS X T (.Continue pos :: rest) τ M R := .mk fun W tk σ G H hE hH D hR => ws_step ps_continue (hR _ _ _ _ h Stp.refl hH σ hE)
theorem ws_ret (h : EX X T e τ M (fun d M1 => R (.rt d) M1) (fun x M1 => R (.ex x τ) M1)) : WS X T (.Return (some e) pos :: rest) τ M R := .mk fun W tk σ G H hE hH D hR =>
  ws_step' (s_ret <| h.run W tk σ G H hE hH _ (fun d M2 v G2 H2 r s h2 dv => hR _ _ _ _ r s h2 v dv) (ex_out hR hE))
theorem ws_retN (h : R (.rt .non) M) : WS X T (.Return none pos :: rest) τ M R := .mk fun W tk σ G H hE hH D hR => ws_step ps_retN (hR _ _ _ _ h Stp.refl hH .non den_non)
theorem ws_expr (h : EX X T e τ M (fun _ M1 => WS X T rest τ M1 R) (fun x M1 => R (.ex x τ) M1)) (hs : swapsWith e none pos.line X.env = pure false := by rfl) : WS X T (.Expr e pos :: rest) τ M R := .mk fun W tk σ G H hE hH D hR =>
  ws_step' (s_expr hs <| h.run W tk σ G H hE hH _ (fun d M2 v G2 H2 r s h2 dv => r.run W tk σ G2 H2 (hE.up s.gg) h2 D (hR.step s)) (ex_out hR hE))
/-- x = e -/
theorem ws_set {x : Str} {p : Pos} (h : EX X T e τ M (fun d M1 => WS X T rest (τ.set (ixIn X.N x) (some d)) M1 R) (fun x M1 => R (.ex x τ) M1)) (hi : X.N[ixIn X.N x]? = some x := by rfl) (hx : Loc X.env.scope x := by first | exact Or.inl rfl | exact Or.inr rfl) (hN : X.N.Nodup := by first | decide +kernel | exact of_decide_eq_true (by kernel_rfl))
    (hs : swapsWith e (some (.Name x p)) pos.line X.env = pure false := by rfl) (hf : X.fn x = true ∨ X.env.scope.names.lookup x = some .local := by first | exact .inl rfl | exact .inr rfl | assumption) : WS X T (.Assign [.Name x p] e pos :: rest) τ M R := .mk fun W tk σ G H hE hH D hR => tWSs_len fun hl =>
  ws_step' (s_set hN hi hx hs hf <| h.run W tk σ G H hE hH _ (fun d M2 v G2 H2 r s h2 dv => by
    have hlt : ixIn X.N x < σ.length := by rw [hl]; exact (List.getElem?_eq_some_iff.mp hi).1
    exact r.run W tk _ G2 H2 ((hE.up s.gg).set hlt dv) h2 D (hR.step s)) (ex_out hR hE))
theorem ws_if {t : Expr} {p q : List Stmt} (h : ET X T t τ M (fun k M1 => (k = true → WS X T p τ M1 (thenR (fun τ' M' => WS X T rest τ' M' R) R)) ∧ (k = false → WS X T q τ M1 (thenR (fun τ' M' => WS X T rest τ' M' R) R))) (fun x M1 => R (.ex x τ) M1)) :
    WS X T (.If t p q pos :: rest) τ M R := .mk fun W tk σ G H hE hH D hR => by
  refine ws_step' (s_if ?_)
  refine h.run W tk σ G H hE hH _ ?_ (ex_out hR hE)
  intro k M1 G1 H1 ⟨h1, h2⟩ s1 hs1
  have fin : CS' X.K G1 M1 H1 (thenR (fun τ' M' => WS X T rest τ' M' R) R) { D with nx := tWSs X T rest D } W := fun o M2 G2 H2 r s2 hs2 => by
    cases o with
    | nx τ' => exact fun σ' hE' => r.run W tk σ' G2 H2 hE' hs2 D (hR.step (s1.trans s2))
    | rt d => exact hR _ _ _ _ r (s1.trans s2) hs2
    | bk τ' => exact hR _ _ _ _ r (s1.trans s2) hs2
    | ct τ' => exact hR _ _ _ _ r (s1.trans s2) hs2
    | ex x τ' => exact hR _ _ _ _ r (s1.trans s2) hs2
  cases k with
  | true => exact iteT ((h1 rfl).run W tk σ G1 H1 (hE.up s1.gg) hs1 _ fin)
  | false => exact iteF ((h2 rfl).run W tk σ G1 H1 (hE.up s1.gg) hs1 _ fin)
/-- tg = e, any target -/
theorem ws_asg {tg : Expr} (h : EX X T e τ M (fun d M1 => GX X T tg d τ M1 (fun τ2 M2 => WS X T rest τ2 M2 R) (fun x M2 => R (.ex x τ) M2)) (fun x M1 => R (.ex x τ) M1))
    (hs : swapsWithSole [tg] e pos.line X.env = pure false := by rfl) (hw : swappedStores [tg] e X.env = pure none := by rfl) (h1 : (assignEach [tg] X.env).map (·.2) = [assign tg X.env] := by rfl) : WS X T (.Assign [tg] e pos :: rest) τ M R := .mk fun W tk σ G H hE hH D hR =>
  ws_step' (s_asg hs hw h1 <| h.run W tk σ G H hE hH _ (fun d M2 v G2 H2 r s h2 dv =>
    r.run W tk σ G2 H2 v (hE.up s.gg) h2 dv _ (fun τ3 M3 G3 H3 σ3 r3 s3 h3 e3 => r3.run W tk σ3 G3 H3 e3 h3 D (hR.step (s.trans s3))) ((ex_out hR hE).step s)) (ex_out hR hE))
/-! ### targets -/
theorem gx_name {x : Str} {p : Pos} {d : Dat} {P : TEnv → Mem → Prop} {E : XKx} (h : P (τ.set (ixIn X.N x) (some d)) M) (hi : X.N[ixIn X.N x]? = some x := by rfl) (hx : Loc X.env.scope x := by first | exact Or.inl rfl | exact Or.inr rfl) (hN : X.N.Nodup := by first | decide +kernel | exact of_decide_eq_true (by kernel_rfl))
    (hf : X.fn x = true ∨ X.env.scope.names.lookup x = some .local := by first | exact .inl rfl | exact .inr rfl | assumption) : GX X T (.Name x p) d τ M P E := .mk fun W tk σ G H v hE hH dv Q hP hX => tWG_len fun hl => by
  refine tWG_of (pg_name hN hi hx hf) ?_
  have hlt : ixIn X.N x < σ.length := by rw [hl]; exact (List.getElem?_eq_some_iff.mp hi).1
  exact hP _ _ _ _ _ h Stp.refl hH (hE.set hlt dv)
end
end Kh

set_option Elab.async false
set_option linter.all false
set_option maxRecDepth 100000
set_option maxHeartbeats 1000000
namespace Kh
open PySem PySem.Spec L2
open PyProof.Rows (isTrue_plain)

/-! ### what a def promises -/
/-- the arguments, the cells it is told of; what is wanted of its value and the cells behind it; of what it lets out -/
abbrev Spc := List Dat → Mem → PK' → XKx → Prop
def toSp (K : PySem.W.Frag) (S : Spc) : Sp := fun vs H Q E => ∃ G ds M P PE, DenL K G ds vs ∧ Hst K G M H ∧ S ds M P PE ∧ CE' K G M H P Q ∧ CX' K G M H PE E
abbrev FnD (P : Program) (w : World) (K : PySem.W.Frag) (mg : Str → Option Value) (base : Heap) (k : Nat) (f : Addr) (fd : FuncData) (ps : List Str) (S : Spc) : Prop := FnOk P w K mg base (L2.CX P w) k f fd ps (toSp K S)
/-- a part of the cells is handed to the def, the rest stays -/
def AP (S : Spc) (ds : List Dat) (M : Mem) (P : PK') (E : XKx) : Prop :=
  ∃ Mc Mr, M.Perm (Mc ++ Mr) ∧ S ds Mc (fun d Mc2 => ∃ M2, (Mc2 ++ Mr).Perm M2 ∧ P d M2) (fun x Mc2 => ∃ M2, (Mc2 ++ Mr).Perm M2 ∧ E x M2)
theorem ap_none {S : Spc} {ds : List Dat} {M : Mem} {P : PK'} {E : XKx} (h : S ds [] (fun d Mc2 => P d (Mc2 ++ M)) (fun x Mc2 => E x (Mc2 ++ M))) (hm : ∀ P P' E E', (∀ d M, P d M → P' d M) → (∀ d M, E d M → E' d M) → S ds [] P E → S ds [] P' E') : AP S ds M P E :=
  ⟨[], M, List.Perm.refl _, hm _ _ _ _ (fun d Mc p => ⟨_, List.Perm.refl _, p⟩) (fun d Mc p => ⟨_, List.Perm.refl _, p⟩) h⟩
theorem ap_toSp {K : PySem.W.Frag} {S : Spc} {ds : List Dat} {M : Mem} {P : PK'} {E : XKx} {G H : Hp} {vs : List V} {Q : VK} {T : XK} (h : AP S ds M P E) (dv : DenL K G ds vs) (hH : Hst K G M H) (hP : CE' K G M H P Q) (hX : CX' K G M H E T) : toSp K S vs H Q T := by
  obtain ⟨Mc, Mr, pm, hs⟩ := h
  have hH' := hH.perm pm
  refine ⟨G, ds, Mc, _, _, dv, hH'.left, hs, ?_, ?_⟩
  · intro d Mc2 v G2 H2 ⟨M2, p2, hp⟩ s h2 dd
    obtain ⟨s3, h3⟩ := Stp.frame hH' s h2
    exact hP d M2 v G2 H2 hp (s3.perm pm.symm p2) (h3.perm p2) dd
  · intro x Mc2 G2 H2 d ⟨M2, p2, hp⟩ s h2 dd
    obtain ⟨s3, h3⟩ := Stp.frame hH' s h2
    exact hX x M2 G2 H2 d hp (s3.perm pm.symm p2) (h3.perm p2) dd

/-- the ends of a def -/
def retR (P : PK') (E : XKx) : RK
  | .rt d, M => P d M
  | .nx _, M => P .non M
  | .ex x _, M => E x M
  | _, _ => False
def startT (N : List Str) (ds : List Dat) : TEnv := ds.map some ++ List.replicate (N.length - ds.length) none
theorem denE_start {K : PySem.W.Frag} {G : Hp} {N : List Str} {ds : List Dat} {vs : List V} (h : DenL K G ds vs) : DenE K (startT N ds) G (L2.start N vs) := fun i d e => by
  unfold startT at e
  have hi : i < ds.length := by
    by_cases hi : i < ds.length
    · exact hi
    · rw [List.getElem?_append_right (by simpa using hi), List.getElem?_replicate] at e
      split at e <;> cases e
  rw [List.getElem?_append_left (by simpa using hi), List.getElem?_map] at e
  cases q : ds[i]? with
  | none => rw [q] at e; cases e
  | some d' =>
    rw [q] at e; cases e
    obtain ⟨v, h1, h2⟩ := h.get q
    refine ⟨v, ?_, h2⟩
    unfold L2.start
    rw [List.getElem?_append_left (by rw [List.length_map, h.length]; exact hi), List.getElem?_map, h1]
    rfl
theorem cs_ret {K : PySem.W.Frag} {G H : Hp} {M : Mem} {P : PK'} {E : XKx} {Q : VK} {W : WX} (hP : CE' K G M H P Q) (hX : CX' K G M H E (fun c d H2 => ∀ σ, W c d σ H2)) : CS' K G M H (retR P E) { nx := fun _ H' => Q .non H', rt := Q } W := fun o M2 G2 H2 r s h => by
  cases o with
  | nx τ => exact fun σ _ => hP _ _ _ _ _ r s h den_non
  | rt d => exact fun v dv => hP _ _ _ _ _ r s h dv
  | bk τ => exact r.elim
  | ct τ => exact r.elim
  | ex x τ => exact fun σ d _ dx => hX _ _ _ _ _ r s h dx σ
section
variable {P : Program} {w : World} {K : PySem.W.Frag} {mg : Str → Option Value} {base : Heap}
/-- binding parameters, one of them a local: a token is out behind it -/
theorem bind_toks {M : Model} {A : Around} {E : Value → Shared → Prop} {s₀ : Shared} {env : Env} (f : Str × Value → PUnit → Sem (ForInStep PUnit)) (hf : ∀ n v u, f (n, v) u = (do storeName env n v; pure (.yield ⟨⟩))) (hk : env.scope.kind = .function) :
    ∀ (bs : List (Str × Value)) (m cm : Str → Option Value) (s : Shared) (Q : PUnit → Shared → Prop), InCallC s₀ env.locals m env.cells cm s →
      (∀ x ∈ bs, env.kindOf x.1 = some .local ∨ (env.kindOf x.1 = some .cell ∧ (env.cells.lookup x.1).isSome = true)) → (∃ x ∈ bs, env.kindOf x.1 = some .local) →
      (∀ s', 1 ≤ s'.toks → InCallC s₀ env.locals (bindL env.kindOf bs m) env.cells (bindC env.kindOf bs cm) s' → Q ⟨⟩ s') → wpAny M A (forIn bs ⟨⟩ f) Q E s
  | [], m, cm, s, Q, x, _, ⟨y, hy, _⟩, h => by cases hy
  | (n, v) :: r, m, cm, s, Q, x, kinds, he, h => by
    rw [List.forIn_cons, hf]
    have kr : ∀ y ∈ r, env.kindOf y.1 = some .local ∨ (env.kindOf y.1 = some .cell ∧ (env.cells.lookup y.1).isSome = true) := fun y hy => kinds y (List.mem_cons_of_mem _ hy)
    rcases kinds (n, v) List.mem_cons_self with hl | ⟨hl, hc⟩
    · refine wpAny_bind (wpAny_bind (wpAny_storeName_local hl x.toInCall.ns (fun h' hn' hs' => wpAny_pure ?_) (by rw [hk]; rfl)))
      have x' : InCallC s₀ env.locals (fun y => if y = n then some v else m y) env.cells cm { s with heap := h', toks := s.toks + 1 } := by
        refine ⟨⟨?_, hn', fun b o e => ?_, x.toInCall.fresh⟩, fun k c hc => ?_, x.apart, x.above⟩
        · obtain ⟨h₁, tk, rfl⟩ := x.toInCall.same
          exact ⟨h', _, rfl⟩
        · exact hs'.extBut b o (Nat.ne_of_lt (Nat.lt_of_lt_of_le (Heap.lt_size e) x.toInCall.fresh)) (x.toInCall.keep b o e)
        · exact (x.cell k c hc).sameBut hs' (Nat.ne_of_gt (x.above k c (mem_of_lookup hc)))
      refine wpAny_with_toks (n := 1) (show 1 ≤ s.toks + 1 by omega) ?_
      refine wpAny_mono (E := fun e s' => E e s') (wpAny_bindParams f hf hk r _ _ _ (fun u s'' => 1 ≤ s''.toks → Q u s'') x' kr fun s'' x'' k => h s'' k ?_) (fun _ _ q => q) fun _ _ q _ => q
      unfold bindL bindC; rw [if_pos hl, if_pos hl]; exact x''
    · obtain ⟨c, hc⟩ := Option.isSome_iff_exists.mp hc
      have hnl : ¬ env.kindOf n = some .local := by rw [hl]; decide
      have hr : ∃ y ∈ r, env.kindOf y.1 = some .local := by
        obtain ⟨y, hy, hy2⟩ := he
        rcases List.mem_cons.mp hy with rfl | hy
        · exact absurd hy2 hnl
        · exact ⟨y, hy, hy2⟩
      refine wpAny_bind (wpAny_bind (stCC x hk hl hc fun s' x' => wpAny_pure (bind_toks f hf hk r _ _ s' Q x' kr hr fun s'' k x'' => h s'' k ?_)))
      unfold bindL bindC; rw [if_neg hnl, if_neg hnl]; exact x''
theorem newEnv_toks {M : Model} {A : Around} {E : Value → Shared → Prop} {s : Shared} {scope : Scope} {globals : Addr} {bs : List (Str × Value)} {qual : Str} {func : Option Addr} {code : Value} {builtins : Addr} {Q : Env → Shared → Prop}
    (hk : scope.kind = .function)
    (kinds : ∀ x ∈ bs, scope.names.lookup x.1 = some .local ∨ (scope.names.lookup x.1 = some .cell ∧ ((cellsFrom (s.heap.objs.size + 1) scope.names []).lookup x.1).isSome = true)) (he : ∃ x ∈ bs, scope.names.lookup x.1 = some .local)
    (hQ : ∀ env, env = newEnv scope s.heap.objs.size globals (cellsFrom (s.heap.objs.size + 1) scope.names []) qual func code none builtins →
      ∀ s', 1 ≤ s'.toks → InCallC s env.locals (bindL env.kindOf bs fun _ => none) env.cells (bindC env.kindOf bs fun _ => none) s' → Q env s') :
    wpAny M A (newFunctionEnv scope globals [] bs qual func code none builtins) Q E s := by
  simp only [newFunctionEnv, Option.isSome_none, Bool.false_eq_true, if_false]
  refine wpAny_bind (wpAny_alloc (wpAny_bind (wpAny_layCells _ (fun name kind cells => by cases hkc : kind == NameKind.cell <;> simp [hkc]) _ _ _ _ ?_)))
  have ok := cellsFrom_ok scope.names (s.heap.push { cls := .type "frame", data := .dict #[] }) (s.heap.objs.size + 1) [] ⟨fun _ _ hm => (nomatch hm), List.Pairwise.nil⟩ (by rw [Heap.size_push]; exact Nat.le_refl _)
  rw [Heap.size_push] at ok
  rw [show ({ s with heap := s.heap.push { cls := .type "frame", data := .dict #[] } } : Shared).heap.objs.size = s.heap.objs.size + 1 from Heap.size_push ..]
  exact wpAny_bind (bind_toks (s₀ := s) (env := newEnv scope s.heap.objs.size globals (cellsFrom (s.heap.objs.size + 1) scope.names []) qual func code none builtins) _ (fun _ _ _ => rfl) hk bs (fun _ => none) (fun _ => none) _ _
    ⟨⟨⟨_, _, rfl⟩, (Heap.Ns.new s.heap (.type "frame")).keeps (pushCells_keeps _ _), fun b o e => pushCells_keeps _ _ b o (Heap.get?_push_of_some _ e), Nat.le_refl _⟩, fun n c hc => (ok.empty n c (mem_of_lookup hc)).1, ok.apart, fun n c hm => (ok.empty n c hm).2⟩
    kinds he fun s' k x => wpAny_pure (hQ _ rfl s' k x))
/-- a body, at its entry: with T where a parameter is a local -/
theorem fn_w {CX : CXT} {k : Nat} {f : Addr} {name qual : Str} {params : Arguments} {body : List Stmt} {scope : Scope} {dV kV doc pm cdv ct oc : Value} {an od : Option Addr} {T : Bool}
    {osl : Array (Option Value)} {N ps : List Str} {sp : Sp} (lk : K.lookup f = some ⟨oc, od, .func (PySem.W.fnOf name qual params body scope dV kV doc pm an cdv ct), osl⟩) (hcd : PySem.W.codeIn K cdv qual = true) (S : FnScope N ps scope) (hT : T = true → ∃ x ∈ ps, scope.names.lookup x = some .local)
    (len : ∀ vs H Q E, sp vs H Q E → vs.length = ps.length)
    (hbody : ∀ (A : Around) (outer : List Env) (s : Shared) (H : Hp) (vs : List V) (Q : VK) (E : XK), Room k (A.deeper (PyProof.Rows.envOfC qual scope s.heap.objs.size f cdv)) → sp vs H Q E →
      tWSs (cxOf CX P w K mg base N qual scope f cdv A outer s H E) T body { nx := fun _ H' => Q .non H', rt := Q } (L2.start N vs) H) :
    FnOk P w K mg base CX (k + 1) f (PySem.W.fnOf name qual params body scope dV kV doc pm an cdv ct) ps sp := by
  refine ⟨len, fun A outer s H args us vs Q E hr e0 hb r hsp => ?_⟩
  have hl := len _ _ _ _ hsp
  have KX : K.In s.heap := e0.mod.kin.keeps fun b o e => (e0.bs b o e).1
  have lim : s.heap.NoLimit := e0.mod.nolimit.keeps fun b o e => (e0.bs b o e).1
  have kinds : ∀ y ∈ ps.zip us, scope.names.lookup y.1 = some .local ∨ (scope.names.lookup y.1 = some .cell ∧ ((cellsFrom (s.heap.objs.size + 1) scope.names []).lookup y.1).isSome = true) := fun ⟨n, v⟩ hy => by
    rcases S.par n (List.of_mem_zip hy).1 with q | q
    · exact .inl q
    · exact .inr ⟨q, PySem.W.cellsFrom_some _ _ _ (.inl q)⟩
  refine codeAny_call_function hr.depth (KX _ _ lk) rfl S.co S.gen rfl (PySem.W.codeRec_of KX hcd) (hb _ _ _ _ ?_)
  have main : ∀ env, env = newEnv scope s.heap.objs.size mainGlobals (cellsFrom (s.heap.objs.size + 1) scope.names []) (qual ++ ".<locals>.") (some f) cdv none builtinsNs → ∀ s1, Tk T s1 → InCallC s env.locals (bindL env.kindOf (ps.zip us) fun _ => none) env.cells (bindC env.kindOf (ps.zip us) fun _ => none) s1 →
      s1.heap.NoLimit ∧ codeAny (model P w) A (.func body env) (CR CX outer P w H s Q E) s1 := by
    intro env he s1 hk x
    subst he
    refine ⟨lim.keeps x.toInCall.keep, codeAny_func ?_⟩
    have ht := hbody A outer s H vs Q E (hr.deeper _) hsp
    have I : Inv (cxOf CX P w K mg base N qual scope f cdv A outer s H E) [] (L2.start N vs) H s1 := inv_start S hr.hd e0 hl r x
    refine wpAny_mono (ht [] s1 hk I) (fun fl s' hs => ?_) fun e s' hs => hs
    cases fl with
    | ret u =>
      obtain ⟨v, σ', H', J, rv, q⟩ := hs
      exact ⟨v, H', J.os, J.bare, J.base, J.hok, rv, q⟩
    | next =>
      obtain ⟨σ', H', J, q⟩ := hs
      exact ⟨V.non, H', J.os, J.bare, J.base, J.hok, (rfl : Value.none = Value.none), q⟩
    | brk => obtain ⟨_, _, _, q⟩ := hs; exact False.elim q
    | cont => obtain ⟨_, _, _, q⟩ := hs; exact False.elim q
  cases T with
  | false => exact wpAny_newFunctionEnv_cells S.kind kinds fun env he s1 x => main env he s1 tk_f x
  | true =>
    refine newEnv_toks S.kind kinds ?_ fun env he s1 k x => main env he s1 (fun _ => k) x
    obtain ⟨x, hx, h2⟩ := hT rfl
    obtain ⟨i, hi, e⟩ := List.getElem_of_mem hx
    have hul : us.length = ps.length := by rw [← r.length, hl]
    exact ⟨(ps[i], us[i]'(by omega)), List.mem_of_getElem? (i := i) (by rw [List.getElem?_zip_eq_some]; exact ⟨List.getElem?_eq_getElem hi, List.getElem?_eq_getElem _⟩), by rw [e]; exact h2⟩
/-- THE RULE for a def that may raise (or not) -/
theorem fn_d {x qual : Str} {st : Stmt} {f : Addr} {fd : FuncData} {N ps : List Str} {k : Nat} {S : Spc} (T : Bool) (F : Fun K x qual st f fd) (Sc : FnScope N ps (defScope st)) (hT : T = true → ∃ x ∈ ps, (defScope st).names.lookup x = some .local) (len : ∀ ds M P E, S ds M P E → ds.length = ps.length)
    (body : ∀ (cdv : Value) (A : Around) (outer : List Env) (s : Shared) (H : Hp) (E : XK), Room k (A.deeper (PyProof.Rows.envOfC qual (defScope st) s.heap.objs.size f cdv)) → ∀ ds M Pd PE, S ds M Pd PE →
      WS (cxOf (L2.CX P w) P w K mg base N qual (defScope st) f cdv A outer s H E) T (defBody st) (startT N ds) M (retR Pd PE)) : FnD P w K mg base (k + 1) f fd ps S := by
  obtain ⟨oc, od, kV, doc, pm, an, cdv, ct, osl, rfl, lk, hcd⟩ := F.ex
  refine fn_w (T := T) lk hcd Sc hT (fun vs H Q E h => ?_) (fun A outer s H vs Q E hr h => ?_)
  · obtain ⟨G, ds, M, Pd, PE, dv, _, hs, _⟩ := h
    rw [dv.length]; exact len _ _ _ _ hs
  · obtain ⟨G, ds, M, Pd, PE, dv, hH, hs, hP, hX⟩ := h
    exact (body cdv A outer s H E hr ds M Pd PE hs).run _ (takes_of rfl rfl rfl rfl) _ G H (denE_start dv) hH _ (cs_ret hP fun x M2 G2 H2 d p s h dx σ => hX x M2 G2 H2 d p s h dx)
/-- the law's own def: nothing leaves it -/
theorem fn_law {x qual : Str} {st : Stmt} {f : Addr} {fd : FuncData} {N ps : List Str} {k : Nat} {S : Spc} (T : Bool) (F : Fun K x qual st f fd) (Sc : FnScope N ps (defScope st)) (hT : T = true → ∃ x ∈ ps, (defScope st).names.lookup x = some .local) (len : ∀ ds M P E, S ds M P E → ds.length = ps.length)
    (body : ∀ (cdv : Value) (A : Around) (outer : List Env) (s : Shared) (H : Hp), Room k (A.deeper (PyProof.Rows.envOfC qual (defScope st) s.heap.objs.size f cdv)) → ∀ ds M Pd PE, S ds M Pd PE →
      WS (cxOf CX0 P w K mg base N qual (defScope st) f cdv A outer s H L2.E0).nox T (defBody st) (startT N ds) M (retR Pd E0')) : FnOk P w K mg base CX0 (k + 1) f fd ps (toSp K S) := by
  obtain ⟨oc, od, kV, doc, pm, an, cdv, ct, osl, rfl, lk, hcd⟩ := F.ex
  refine fn_w (T := T) lk hcd Sc hT (fun vs H Q E h => ?_) (fun A outer s H vs Q E hr h => ?_)
  · obtain ⟨G, ds, M, Pd, PE, dv, _, hs, _⟩ := h
    rw [dv.length]; exact len _ _ _ _ hs
  · obtain ⟨G, ds, M, Pd, PE, dv, hH, hs, hP, hX⟩ := h
    intro pins s1 tk I
    have q := (body cdv A outer s H hr ds M Pd PE hs).run _ takes0 _ G H (denE_start dv) hH _ (cs_ret hP fun x M2 G2 H2 d p => p.elim) pins s1 tk (I.wish _)
    exact wpAny_mono q (fun _ _ z => z.unwish) fun _ _ z => False.elim z
end

/-! ### calls -/
section
variable {X : Cx} {T : Bool} {τ : TEnv} {M : Mem} {P : PK'} {E : XKx} {e o a b c : Expr} {es : List Expr} {pos p apos : Pos} {k : Nat} {f C : Addr} {fd : FuncData} {ps : List Str} {S : Spc} {dvs : List V} {df : List Dat} {dsv : List Value} {x m : Str}
theorem run_d {pins : List (Addr × Obj)} {σ : L2.St} {H : Hp} {s : Shared} {Q : VK} {us : List Value} {vs : List V} {W : WX} (F : FnD X.prog X.w X.K X.mg X.base k f fd ps S) (hr : Room k X.A) (hb : Binds X.K fd ps dsv) (hd : Vals dvs dsv) (tk : Takes X W)
    (I : Inv X pins σ H s) (r : Vals vs us) (h : toSp X.K S (vs ++ dvs) H Q (fun c d H2 => W c d σ H2)) : wpAny (model X.prog X.w) X.A (call (.ref f) us) (EP X pins σ Q) X.xe s :=
  run_fnSD (E := fun σ c d H2 => W c d σ H2) F hr hb hd (fun pins H s e s' I c => tk e s' (XE.of_call I (fun cls d H' h => h) c)) I r h
/-- f(e, ..) -/
theorem ex_call (F : FnD X.prog X.w X.K X.mg X.base k f fd ps S) (hr : Room k X.A) (hm : X.mg x = some (.ref f)) (hk : PySem.W.keepIn X.K (.ref f) = true) (hb : Binds X.K fd ps dsv) (hd : Vals dvs dsv) (hdf : ∀ G, DenL X.K G df dvs)
    (h : EA X T (e :: es) τ M (fun ds M1 => AP S (ds ++ df) M1 P E) E) (hg : Gl X x := by rfl) (hdb : (x == ("__debug__" : Str)) = false := by decide) (he : starEach (e :: es) X.env = (false, eval e X.env) :: starEach es X.env := by rfl) (hpl : (backTo pos (starEach es X.env)).any (·.1) = false := by rfl) :
    EX X T (.Call (.Name x p) (e :: es) [] pos) τ M P E := by
  refine .mk ?_; intro W tk σ G H hE hH Q hP hX pins s k0 I
  refine wpAny_Call_Name_kw (ld_glob I hg hm ?_ hdb)
  have hA := h.run W tk σ G H hE hH (fun vs H1 => toSp X.K S (vs ++ dvs) H1 Q (fun c d H2 => W c d σ H2)) (fun ds M1 vs G1 H1 ha s1 h1 dv => ap_toSp ha (dv.append (hdf G1)) h1 (hP.step s1) (hX.step s1)) hX
  refine PySem.W.callWith_K (h₀ := X.base) I.ok.mod.kin hk (thn (hA pos pins s k0 I) fun us s1 ⟨vs, H1, I1, r, q⟩ => ⟨I1.kIn, ?_⟩) he hpl
  exact run_d F hr hb hd tk I1 r q
theorem ex_call0 (F : FnD X.prog X.w X.K X.mg X.base k f fd ps S) (hr : Room k X.A) (hm : X.mg x = some (.ref f)) (hk : PySem.W.keepIn X.K (.ref f) = true) (hb : Binds X.K fd ps dsv) (hd : Vals dvs dsv) (hdf : ∀ G, DenL X.K G df dvs)
    (h : AP S df M P E) (hg : Gl X x := by rfl) (hdb : (x == ("__debug__" : Str)) = false := by decide) : EX X T (.Call (.Name x p) [] [] pos) τ M P E := by
  refine .mk ?_; intro W tk σ G H hE hH Q hP hX pins s k0 I
  refine wpAny_Call_Name_kw (ld_glob I hg hm ?_ hdb)
  exact PySem.W.callWith_K0 I.kIn hk (run_d (us := []) (vs := []) F hr hb hd tk I .nil (ap_toSp h (hdf G) hH hP hX))
/-- an instance of the class at C without a field m -/
def IsI (C : Addr) (m : Str) (M : Mem) (d : Dat) : Prop := (∃ ns ds, d = .obj C ns ds ∧ m ∉ ns) ∨ ∃ p dx fs, d = .raw (.ref p) ∧ (p, MC.ins C dx fs) ∈ M ∧ m ∉ fs.map (·.1)
theorem lookup_none_of {α : Type} : ∀ {l : List (Str × α)} {m : Str}, m ∉ l.map (·.1) → l.lookup m = none
  | [], _, _ => rfl
  | (n, v) :: r, m, h => by
    have h1 : (m == n) = false := by
      cases q : m == n with
      | false => rfl
      | true => exact absurd (List.mem_map.mpr ⟨(n, v), List.mem_cons_self, (eq_of_beq q).symm⟩) h
    rw [List.lookup_cons, h1]
    exact lookup_none_of fun z => h (List.mem_cons_of_mem _ z)
theorem zip_fst_sub {α β : Type} {a : α} : ∀ {l : List α} {r : List β}, a ∈ (l.zip r).map (·.1) → a ∈ l
  | [], _, h => by simp at h
  | _ :: _, [], h => by simp at h
  | x :: l, y :: r, h => by
    rw [List.zip_cons_cons, List.map_cons] at h
    rcases List.mem_cons.mp h with e | h
    · exact List.mem_cons.mpr (.inl e)
    · exact List.mem_cons_of_mem _ (zip_fst_sub h)
theorem IsI.get {K : PySem.W.Frag} {G H : Hp} {d : Dat} {v : V} (h : IsI C m M d) (hH : Hst K G M H) (dv : Den K G d v) : ∃ a dx fs, v = .ref a ∧ H a = some (.ins C dx fs) ∧ fs.lookup m = none := by
  rcases h with ⟨ns, ds, rfl, hm⟩ | ⟨q, dx, fs, rfl, hq, hm⟩
  · obtain ⟨a, dx, vs, rfl, h1, h2, h3⟩ := dv.obj_inv
    exact ⟨a, dx, _, rfl, hH.sub _ _ h1, lookup_none_of fun z => hm (zip_fst_sub z)⟩
  · obtain ⟨vs, h1, h2, h3⟩ := hH.mem _ hq
    exact ⟨q, dx, vs, dv.raw_inv, h1, lookup_none_of fun z => hm (by rw [← h3.1]; exact z)⟩
/-- o.m(e, ..) -/
theorem ex_meth {g : Addr} {pl : Sem Bool} (c : Cls X.K C) (hm : Meth X.K C m g) (F : FnD X.prog X.w X.K X.mg X.base k g fd ps S) (hr : Room k X.A) (hb : Binds X.K fd ps dsv) (hd : Vals dvs dsv) (hdf : ∀ G, DenL X.K G df dvs)
    (h : EX X T o τ M (fun d M1 => IsI C m M1 d ∧ EA X T (e :: es) τ M1 (fun ds M2 => AP S (d :: (ds ++ df)) M2 P E) E) E)
    (ht : eval (.Call (.Attribute o m apos) (e :: es) [] pos) X.env = (do let ov ← eval o X.env; standAt apos.atName; let (f, first) ← holding [ov] (getMethod ov m pl); callWith pos f first (backTo pos (starEach (e :: es) X.env)) []) := by rfl)
    (he : starEach (e :: es) X.env = (false, eval e X.env) :: starEach es X.env := by rfl) (hpl : (backTo pos (starEach es X.env)).any (·.1) = false := by rfl) :
    EX X T (.Call (.Attribute o m apos) (e :: es) [] pos) τ M P E := by
  refine .mk ?_; intro W tk σ G H hE hH Q hP hX pins s k0 I
  have hO := h.run W tk σ G H hE hH (fun x H1 => ∃ a dx fs, x = .ref a ∧ H1 a = some (.ins C dx fs) ∧ fs.lookup m = none ∧ tWA X T (e :: es) σ H1 fun vs H2 => toSp X.K S (x :: (vs ++ dvs)) H2 Q (fun c d H3 => W c d σ H3)) (fun d M1 v G1 H1 ⟨hi, ha⟩ s1 h1 dv => by
    obtain ⟨a, dx, fs, e1, e2, e3⟩ := hi.get h1 dv
    exact ⟨a, dx, fs, e1, e2, e3, ha.run W tk σ G1 H1 (hE.up s1.gg) h1 _ (fun ds M2 vs G2 H2 hp s2 h2 dvs2 => ap_toSp hp (.cons (dv.up s2.gg) (dvs2.append (hdf G2))) h2 (hP.step (s1.trans s2)) (hX.step (s1.trans s2))) (hX.step s1)⟩) hX
  refine PySem.W.methodCall_KW (pl := pl) (thnT k0 (hO pins s k0 I) fun u s1 k1 ⟨x, H1, I1, rx, a, dx, fs, ex, ea, l, q⟩ => ?_) ht
  subst ex
  obtain rfl : u = Value.ref a := rx
  refine getmeth_ok I1 ea c hm l ?_
  refine PySem.W.callWith_K (h₀ := X.base) (first := [.ref a]) I1.ok.mod.kin hm.kp (thn (q pos pins s1 k1 I1) fun us s2 ⟨vs, H2, I2, r, q2⟩ => ⟨I2.kIn, ?_⟩) he hpl
  exact run_d (us := .ref a :: us) (vs := .ref a :: vs) F hr hb hd tk I2 (.cons rfl r) q2
theorem ex_meth0 {g : Addr} {pl : Sem Bool} (c : Cls X.K C) (hm : Meth X.K C m g) (F : FnD X.prog X.w X.K X.mg X.base k g fd ps S) (hr : Room k X.A) (hb : Binds X.K fd ps dsv) (hd : Vals dvs dsv) (hdf : ∀ G, DenL X.K G df dvs)
    (h : EX X T o τ M (fun d M1 => IsI C m M1 d ∧ AP S (d :: df) M1 P E) E)
    (ht : eval (.Call (.Attribute o m apos) [] [] pos) X.env = (do let ov ← eval o X.env; standAt apos.atName; let (f, first) ← holding [ov] (getMethod ov m pl); callWith pos f first (backTo pos (starEach [] X.env)) []) := by rfl) :
    EX X T (.Call (.Attribute o m apos) [] [] pos) τ M P E := by
  refine .mk ?_; intro W tk σ G H hE hH Q hP hX pins s k0 I
  have hO := h.run W tk σ G H hE hH (fun x H1 => ∃ a dx fs, x = .ref a ∧ H1 a = some (.ins C dx fs) ∧ fs.lookup m = none ∧ toSp X.K S (x :: dvs) H1 Q (fun c d H3 => W c d σ H3)) (fun d M1 v G1 H1 ⟨hi, ha⟩ s1 h1 dv => by
    obtain ⟨a, dx, fs, e1, e2, e3⟩ := hi.get h1 dv
    exact ⟨a, dx, fs, e1, e2, e3, ap_toSp ha (.cons dv (hdf G1)) h1 (hP.step s1) (hX.step s1)⟩) hX
  refine PySem.W.methodCall_KW (pl := pl) (thnT k0 (hO pins s k0 I) fun u s1 k1 ⟨x, H1, I1, rx, a, dx, fs, ex, ea, l, q⟩ => ?_) ht
  subst ex
  obtain rfl : u = Value.ref a := rx
  refine getmeth_ok I1 ea c hm l ?_
  exact PySem.W.callWith_K0 (first := [.ref a]) I1.kIn hm.kp (run_d (us := [.ref a]) (vs := [.ref a]) F hr hb hd tk I1 (.cons rfl .nil) q)
/-- e.f, a property -/
theorem ex_prop {q g : Addr} {n : Str} (c : Cls X.K C) (hp : PropOf X.K C n q g) (F : FnD X.prog X.w X.K X.mg X.base k g fd ps S) (hr : Room (k + 1) X.A) (hb : Binds X.K fd ps [])
    (h : EX X T e τ M (fun d M1 => (∃ m, IsI C m M1 d) ∧ AP S [d] M1 P E0') E) (hab : attributeBase e n X.env (eval e X.env) = eval e X.env := by rfl) : EX X T (.Attribute e n pos) τ M P E := by
  refine .mk ?_; intro W tk σ G H hE hH Q hP hX
  intro pins s k0 I
  have hO := h.run W tk σ G H hE hH (fun x H1 => ∃ a dx fs, x = .ref a ∧ H1 a = some (.ins C dx fs) ∧ toSp X.K S [x] H1 Q L2.E0) (fun d M1 v G1 H1 ⟨⟨m, hi⟩, ha⟩ s1 h1 dv => by
    obtain ⟨a, dx, fs, e1, e2, e3⟩ := hi.get h1 dv
    exact ⟨a, dx, fs, e1, e2, ap_toSp ha (.cons dv .nil) h1 (hP.step s1) noX⟩) hX
  refine attr_of hab (thn (hO pins s k0 I) fun u s1 ⟨x, H1, I1, rx, a, dx, fs, ex, ea, q⟩ => ?_)
  subst ex
  obtain rfl : u = Value.ref a := rx
  exact getprop_ok (dvs := []) I1 ea c hp F hr hb .nil passL q
/-- a field of an instance -/
def FldI (K : PySem.W.Frag) (n : Str) (M : Mem) (d z : Dat) : Prop := ∃ C, Cls K C ∧ NoAttr K C n ∧ ((∃ ns ds, d = .obj C ns ds ∧ ns.length = ds.length ∧ (ns.zip ds).lookup n = some z) ∨ ∃ p dx fs, d = .raw (.ref p) ∧ (p, MC.ins C dx fs) ∈ M ∧ fs.lookup n = some z)
theorem denL_lookup {K : PySem.W.Frag} {G : Hp} : ∀ {ns : List Str} {ds : List Dat} {vs : List V} {n : Str} {z : Dat}, DenL K G ds vs → (ns.zip ds).lookup n = some z → ∃ v, (ns.zip vs).lookup n = some v ∧ Den K G z v
  | [], _, _, _, _, _, h => by simp at h
  | _ :: _, [], _, _, _, _, h => by simp at h
  | y :: ns, d :: ds, _, n, z, q, h => by
    obtain ⟨v, r, rfl, hv, t⟩ := q.cons_inv
    rw [List.zip_cons_cons, List.lookup_cons] at h ⊢
    cases e : n == y with
    | true => rw [e] at h; cases h; exact ⟨v, rfl, hv⟩
    | false => rw [e] at h; exact denL_lookup t h
theorem denF_lookup {K : PySem.W.Frag} {G : Hp} : ∀ {fs : List (Str × Dat)} {vs : List (Str × V)} {n : Str} {z : Dat}, DenF K G fs vs → fs.lookup n = some z → ∃ v, vs.lookup n = some v ∧ Den K G z v
  | [], _, _, _, _, h => by simp at h
  | (y, d) :: fs, [], _, _, q, h => by have := q.1; simp at this
  | (y, d) :: fs, (y', v) :: vs, n, z, q, h => by
    obtain ⟨h1, h2⟩ := q
    rw [List.map_cons, List.map_cons] at h1
    obtain ⟨e1, e2⟩ := List.cons.inj h1
    have e1 : y' = y := e1
    subst e1
    obtain ⟨v', r, e, hv, t⟩ := (show DenL K G (d :: fs.map (·.2)) (v :: vs.map (·.2)) from h2).cons_inv
    obtain ⟨rfl, rfl⟩ := List.cons.inj e
    rw [List.lookup_cons] at h ⊢
    cases e : n == y' with
    | true => rw [e] at h; cases h; exact ⟨v, rfl, hv⟩
    | false => rw [e] at h; exact denF_lookup ⟨e2, t⟩ h
theorem v_fld {n : Str} {σ : L2.St} {H : Hp} {Q : VK} (hb : attributeBase e n X.env (eval e X.env) = eval e X.env) (q : tW X T e σ H fun x H1 => ∃ a C dx fs v, x = .ref a ∧ H1 a = some (.ins C dx fs) ∧ Cls X.K C ∧ NoAttr X.K C n ∧ fs.lookup n = some v ∧ Q v H1) :
    tW X T (.Attribute e n pos) σ H Q := fun pins s k0 I =>
  attr_of hb (thn (q pins s k0 I) fun u s1 ⟨x, H1, I1, rx, a, C, dx, fs, v, ex, ea, hc, hn, l, q⟩ => by
    subst ex
    obtain rfl : u = Value.ref a := rx
    exact getattr_ok I1 ea hc hn l fun u' s2 I2 ru => ⟨v, H1, I2, ru, q⟩)
theorem ex_fld {n : Str} (h : EX X T e τ M (fun d M1 => ∃ z, FldI X.K n M1 d z ∧ P z M1) E) (hb : attributeBase e n X.env (eval e X.env) = eval e X.env := by rfl) : EX X T (.Attribute e n pos) τ M P E := by
  refine .mk ?_; intro W tk σ G H hE hH Q hP hX
  refine v_fld hb ?_
  refine h.run W tk σ G H hE hH _ ?_ hX
  intro d M1 v G1 H1 ⟨z, ⟨C, hc, hn, hz⟩, hp⟩ s1 h1 dv
  rcases hz with ⟨ns, ds, rfl, hl, hz⟩ | ⟨q, dx, fs, rfl, hq, hz⟩
  · obtain ⟨a, dx, vs, rfl, g1, g2, g3⟩ := dv.obj_inv
    obtain ⟨u, l1, l2⟩ := denL_lookup g3 hz
    exact ⟨a, C, dx, _, u, rfl, h1.sub _ _ g1, hc, hn, l1, hP _ _ _ _ _ hp s1 h1 l2⟩
  · obtain ⟨vs, g1, g2, g3⟩ := h1.mem _ hq
    obtain ⟨u, l1, l2⟩ := denF_lookup g3 hz
    exact ⟨q, C, dx, vs, u, dv.raw_inv, g1, hc, hn, l1, hP _ _ _ _ _ hp s1 h1 l2⟩
/-! ### new instances -/
theorem hst_new {K : PySem.W.Frag} {G H : Hp} {x dx C : Addr} (h : Hst K G M H) (hx : H x = none) (hdx : H dx = none) (ne : dx ≠ x) :
    Hst K G ((x, .ins C dx []) :: M) (upd (upd H dx (.own x)) x (.ins C dx [])) ∧ Stp G M H G ((x, .ins C dx []) :: M) (upd (upd H dx (.own x)) x (.ins C dx [])) := by
  have nM : ∀ b ∈ adr M, b ≠ x ∧ b ≠ dx := fun b hb => ⟨fun e => h.there b hb (by rw [e]; exact hx), fun e => h.there b hb (by rw [e]; exact hdx)⟩
  have kp : ∀ b o, H b = some o → (upd (upd H dx (.own x)) x (.ins C dx [])) b = some o := fun b o e => by
    rw [upd_ne (ne_of_none e hx), upd_ne (ne_of_none e hdx)]; exact e
  have ha : adr ((x, MC.ins C dx []) :: M) = x :: dx :: adr M := rfl
  refine ⟨⟨fun b o e => kp b o (h.sub b o e), fun c hc => ?_, fun b hb => ?_, ?_⟩, ⟨Same.refl _, fun b o _ e => kp b o e, fun _ _ _ g => g, fun b hb => ?_⟩⟩
  · rcases List.mem_cons.mp hc with rfl | hc
    · exact ⟨[], upd_same, by rw [upd_ne ne]; exact upd_same, rfl, .nil⟩
    · exact (h.mem c hc).up (Same.refl _) fun b hb o e => kp b o e
  · rw [ha] at hb
    rcases List.mem_cons.mp hb with rfl | hb
    · exact h.sub.free hx
    · rcases List.mem_cons.mp hb with rfl | hb
      · exact h.sub.free hdx
      · exact h.out b hb
  · rw [ha]
    refine List.nodup_cons.mpr ⟨fun hm => ?_, List.nodup_cons.mpr ⟨fun hm => (nM dx hm).2 rfl, h.nd⟩⟩
    rcases List.mem_cons.mp hm with e | hm
    · exact ne e.symm
    · exact (nM x hm).1 rfl
  · rw [ha] at hb
    rcases List.mem_cons.mp hb with rfl | hb
    · exact .inr hx
    · rcases List.mem_cons.mp hb with rfl | hb
      · exact .inr hdx
      · exact .inl hb
theorem zip_map {α β : Type} : ∀ (l : List (α × β)), (l.map (·.1)).zip (l.map (·.2)) = l
  | [] => rfl
  | (a, b) :: l => by simp only [List.map_cons, List.zip_cons_cons, zip_map l]
/-- a cell of an instance is changed no more -/
theorem freezeI {K : PySem.W.Frag} {G H : Hp} {x dx C : Addr} {fs : List (Str × Dat)} (h : Hst K G ((x, .ins C dx fs) :: M) H) : ∃ G', Stp G ((x, .ins C dx fs) :: M) H G' M H ∧ Hst K G' M H ∧ Den K G' (.obj C (fs.map (·.1)) (fs.map (·.2))) (.ref x) := by
  obtain ⟨vs, h1, h2, h3, h4⟩ := h.mem _ List.mem_cons_self
  have ha : adr ((x, MC.ins C dx fs) :: M) = x :: dx :: adr M := rfl
  have gx : G x = none := h.out x (by rw [ha]; exact List.mem_cons_self)
  have gdx : G dx = none := h.out dx (by rw [ha]; exact List.mem_cons_of_mem _ List.mem_cons_self)
  have nd := h.nd
  rw [ha] at nd
  obtain ⟨n1, n2⟩ := List.nodup_cons.mp nd
  obtain ⟨n3, n4⟩ := List.nodup_cons.mp n2
  have ne : dx ≠ x := fun e => n1 (by rw [e]; exact List.mem_cons_self)
  have up : Same G (upd (upd G dx (.own x)) x (.ins C dx vs)) := fun b o e => by rw [upd_ne (ne_of_none e gx), upd_ne (ne_of_none e gdx)]; exact e
  have sub : Same (upd (upd G dx (.own x)) x (.ins C dx vs)) H := fun b o e => by
    by_cases c : b = x
    · subst c; rw [upd_same] at e; cases e; exact h1
    · rw [upd_ne c] at e
      by_cases c : b = dx
      · subst c; rw [upd_same] at e; cases e; exact h2
      · rw [upd_ne c] at e; exact h.sub b o e
  refine ⟨_, ⟨up, fun _ _ _ e => e, fun b _ hb g => ?_, fun b hb => .inl (by rw [ha]; exact List.mem_cons_of_mem _ (List.mem_cons_of_mem _ hb))⟩, ⟨sub, fun c hc => (h.mem c (List.mem_cons_of_mem _ hc)).up up fun _ _ _ e => e, fun b hb => ?_, n4⟩, ?_⟩
  · rw [ha] at hb
    rw [upd_ne (fun e => hb (by rw [e]; exact List.mem_cons_self)), upd_ne (fun e => hb (by rw [e]; exact List.mem_cons_of_mem _ List.mem_cons_self))]; exact g
  · rw [upd_ne (fun e => n1 (by rw [← e]; exact List.mem_cons_of_mem _ hb)), upd_ne (fun e => n3 (by rw [← e]; exact hb))]
    exact h.out b (by rw [ha]; exact List.mem_cons_of_mem _ (List.mem_cons_of_mem _ hb))
  · simp only [Den]
    refine ⟨x, dx, vs.map (·.2), rfl, ?_, by rw [upd_ne ne]; exact upd_same, h4.up up⟩
    rw [upd_same, ← h3, zip_map]
theorem freezeL {K : PySem.W.Frag} {G H : Hp} {x : Addr} {ds : List Dat} (h : Hst K G ((x, .lst ds) :: M) H) : ∃ G', Stp G ((x, .lst ds) :: M) H G' M H ∧ Hst K G' M H ∧ Den K G' (.lst ds) (.ref x) := by
  obtain ⟨vs, h1, h4⟩ := h.mem _ List.mem_cons_self
  have ha : adr ((x, MC.lst ds) :: M) = x :: adr M := rfl
  have gx : G x = none := h.out x (by rw [ha]; exact List.mem_cons_self)
  have nd := h.nd
  rw [ha] at nd
  obtain ⟨n1, n4⟩ := List.nodup_cons.mp nd
  have up : Same G (upd G x (.lst vs)) := fun b o e => by rw [upd_ne (ne_of_none e gx)]; exact e
  have sub : Same (upd G x (.lst vs)) H := fun b o e => by
    by_cases c : b = x
    · subst c; rw [upd_same] at e; cases e; exact h1
    · rw [upd_ne c] at e; exact h.sub b o e
  refine ⟨_, ⟨up, fun _ _ _ e => e, fun b _ hb g => ?_, fun b hb => .inl (by rw [ha]; exact List.mem_cons_of_mem _ hb)⟩, ⟨sub, fun c hc => (h.mem c (List.mem_cons_of_mem _ hc)).up up fun _ _ _ e => e, fun b hb => ?_, n4⟩, den_lst upd_same (h4.up up)⟩
  · rw [ha] at hb
    rw [upd_ne (fun e => hb (by rw [e]; exact List.mem_cons_self))]; exact g
  · rw [upd_ne (fun e => n1 (by rw [← e]; exact hb))]
    exact h.out b (by rw [ha]; exact List.mem_cons_of_mem _ hb)
/-- what becomes of a new instance at x: it stays a cell, or it is frozen -/
def MadeP (P : PK') (x : Addr) (M2 : Mem) : Prop := P (.raw (.ref x)) M2 ∨ ∃ C dx fs M3, M2.Perm ((x, .ins C dx fs) :: M3) ∧ P (.obj C (fs.map (·.1)) (fs.map (·.2))) M3
theorem madeP_ce {K : PySem.W.Frag} {G H : Hp} {Q : VK} {x : Addr} (hP : CE' K G M H P Q) {M2 : Mem} {G2 H2 : Hp} (hm : MadeP P x M2) (s : Stp G M H G2 M2 H2) (h2 : Hst K G2 M2 H2) : Q (.ref x) H2 := by
  rcases hm with hm | ⟨C, dx, fs, M3, pm, hm⟩
  · exact hP _ _ _ _ _ hm s h2 den_raw
  · obtain ⟨G', s3, h3, d3⟩ := freezeI (h2.perm pm)
    exact hP _ _ _ _ _ hm ((s.perm (List.Perm.refl _) pm).trans s3) h3 d3
theorem run_makeD {pins : List (Addr × Obj)} {σ : L2.St} {H : Hp} {s : Shared} {Q : VK} {us : List Value} {vs : List V} {W : WX} (Mk' : Mk X.K C f) (F : FnD X.prog X.w X.K X.mg X.base k f fd ps S) (hr : Room (k + 1) X.A) (hb : Binds X.K fd ps dsv) (hd : Vals dvs dsv)
    (tk : Takes X W) (I : Inv X pins σ H s) (r : Vals vs us)
    (h : ∀ x dx, H x = none → H dx = none → dx ≠ x → toSp X.K S (.ref x :: (vs ++ dvs)) (upd (upd H dx (.own x)) x (.ins C dx [])) (fun v H2 => v = .non ∧ Q (.ref x) H2) (fun c d H2 => W c d σ H2)) :
    wpAny (model X.prog X.w) X.A (call (.ref C) us) (EP X pins σ Q) X.xe s := by
  have hq := h (s.heap.objs.size + 1) s.heap.objs.size (I.hok.fresh (Nat.le_succ _)) (I.hok.fresh (Nat.le_refl _)) (Nat.ne_of_lt (Nat.lt_succ_self _))
  have I2 := Inv.made (C := C) I
  have r2 : Vals (V.ref (s.heap.objs.size + 1) :: (vs ++ dvs)) (Value.ref (s.heap.objs.size + 1) :: (us ++ dsv)) := .cons rfl (r.append hd)
  have hl : (Value.ref (s.heap.objs.size + 1) :: us ++ dsv).length = ps.length := by
    have e := r2.length
    rw [F.len _ _ _ _ hq] at e
    exact e.symm
  refine wpAny_call (make_map (f := f) I.kIn Mk'.makes Mk'.init (beq_iff_eq.mp Mk'.fn) (codeAny_mono (F.run _ X.stack _ _ ⟨Value.ref (s.heap.objs.size + 1) :: us, []⟩ (Value.ref (s.heap.objs.size + 1) :: (us ++ dsv)) _ _ _ (hr.make C us [])
    (I2.env0.make C us []) (hb _ (Value.ref (s.heap.objs.size + 1) :: us) I2.kIn hl) r2 hq) fun r s' hq' => ?_))
  cases r with
  | error e => exact tk e s' (XE.of_call I2 (fun cls d H' h => h) hq')
  | ok fl =>
    cases fl with
    | ret u =>
      obtain ⟨v, H', I3, rv, ev, q3⟩ := I2.after hq'
      subst ev
      exact ⟨rv, ⟨V.ref (s.heap.objs.size + 1), H', I3, rfl, q3⟩⟩
    | next => exact False.elim hq'
    | brk => exact False.elim hq'
    | cont => exact False.elim hq'
theorem make_sp {K : PySem.W.Frag} {G H : Hp} {Q : VK} {T : XK} {ds : List Dat} {vs : List V}
    (h : ∀ x dx, x ∉ adr M → dx ∉ adr M → dx ≠ x → AP S (.raw (.ref x) :: ds) ((x, .ins C dx []) :: M) (fun d M2 => d = .non ∧ MadeP P x M2) E) (dv : DenL K G ds vs) (hH : Hst K G M H) (hP : CE' K G M H P Q) (hX : CX' K G M H E T) :
    ∀ x dx, H x = none → H dx = none → dx ≠ x → toSp K S (.ref x :: vs) (upd (upd H dx (.own x)) x (.ins C dx [])) (fun v H2 => v = .non ∧ Q (.ref x) H2) T := by
  intro x dx hx hdx ne
  obtain ⟨h1, s1⟩ := hst_new (C := C) hH hx hdx ne
  have n1 : x ∉ adr M := fun z => hH.there x z hx
  have n2 : dx ∉ adr M := fun z => hH.there dx z hdx
  refine ap_toSp (h x dx n1 n2 ne) (.cons den_raw dv) h1 (fun d M2 v G2 H2 ⟨e, hm⟩ s2 h2 dd => ?_) (hX.step s1)
  subst e
  exact ⟨dd.non_inv, madeP_ce hP hm (s1.trans s2) h2⟩
/-- C(e, ..) -/
theorem ex_make (Mk' : Mk X.K C f) (F : FnD X.prog X.w X.K X.mg X.base k f fd ps S) (hr : Room (k + 1) X.A) (hm : X.mg x = some (.ref C)) (hb : Binds X.K fd ps dsv) (hd : Vals dvs dsv) (hdf : ∀ G, DenL X.K G df dvs)
    (h : EA X T (e :: es) τ M (fun ds M1 => ∀ x dx, x ∉ adr M1 → dx ∉ adr M1 → dx ≠ x → AP S (.raw (.ref x) :: (ds ++ df)) ((x, .ins C dx []) :: M1) (fun d M2 => d = .non ∧ MadeP P x M2) E) E)
    (hg : Gl X x := by rfl) (hdb : (x == ("__debug__" : Str)) = false := by decide) (he : starEach (e :: es) X.env = (false, eval e X.env) :: starEach es X.env := by rfl) (hpl : (backTo pos (starEach es X.env)).any (·.1) = false := by rfl) :
    EX X T (.Call (.Name x p) (e :: es) [] pos) τ M P E := by
  refine .mk ?_; intro W tk σ G H hE hH Q hP hX pins s k0 I
  refine wpAny_Call_Name_kw (ld_glob I hg hm ?_ hdb)
  have hA := h.run W tk σ G H hE hH (fun vs H1 => ∀ x dx, H1 x = none → H1 dx = none → dx ≠ x → toSp X.K S (.ref x :: (vs ++ dvs)) (upd (upd H1 dx (.own x)) x (.ins C dx [])) (fun v H2 => v = .non ∧ Q (.ref x) H2) (fun c d H2 => W c d σ H2))
    (fun ds M1 vs G1 H1 ha s1 h1 dv => make_sp ha (dv.append (hdf G1)) h1 (hP.step s1) (hX.step s1)) hX
  refine PySem.W.callWith_K (h₀ := X.base) I.ok.mod.kin Mk'.kp (thn (hA pos pins s k0 I) fun us s1 ⟨vs, H1, I1, r, q⟩ => ⟨I1.kIn, ?_⟩) he hpl
  exact run_makeD Mk' F hr hb hd tk I1 r q
theorem ex_make0 (Mk' : Mk X.K C f) (F : FnD X.prog X.w X.K X.mg X.base k f fd ps S) (hr : Room (k + 1) X.A) (hm : X.mg x = some (.ref C)) (hb : Binds X.K fd ps dsv) (hd : Vals dvs dsv) (hdf : ∀ G, DenL X.K G df dvs)
    (h : ∀ x dx, x ∉ adr M → dx ∉ adr M → dx ≠ x → AP S (.raw (.ref x) :: df) ((x, .ins C dx []) :: M) (fun d M2 => d = .non ∧ MadeP P x M2) E) (hg : Gl X x := by rfl) (hdb : (x == ("__debug__" : Str)) = false := by decide) :
    EX X T (.Call (.Name x p) [] [] pos) τ M P E := by
  refine .mk ?_; intro W tk σ G H hE hH Q hP hX pins s k0 I
  refine wpAny_Call_Name_kw (ld_glob I hg hm ?_ hdb)
  exact PySem.W.callWith_K0 I.kIn Mk'.kp (run_makeD (us := []) (vs := []) Mk' F hr hb hd tk I .nil (make_sp h (hdf G) hH hP hX))
end
end Kh

set_option Elab.async false
set_option linter.all false
set_option maxRecDepth 100000
set_option maxHeartbeats 1000000
namespace Kh
open PySem PySem.Spec L2

/-! ### what is walked -/
/-- J gives the data ds, one after the other, as long as the cells are as Ok says; the unchanging part G1 stands -/
def WalkD (K : PySem.W.Frag) (J : It) (ds : List Dat) (G1 : Hp) (Ok : Mem → Prop) : Prop :=
  ∀ G2 M2 H2, Same G1 G2 → Hst K G2 M2 H2 → Ok M2 → (∀ i, i < ds.length → J.go i H2) ∧ J.stop ds.length H2 ∧
    ∀ i x H', i < ds.length → J.yld i H2 x H' → ∃ G', Stp G2 M2 H2 G' M2 H' ∧ Hst K G' M2 H' ∧ ∀ d, ds[i]? = some d → Den K G' d x
/-- the iterable gives ds; behind its evaluation the cells are M1 -/
structure EI (X : Cx) (tg iter : Expr) (τ : TEnv) (M : Mem) (P : List Dat → Mem → (Mem → Prop) → Prop) (E : XKx) : Prop where
  run : ∀ W, Takes X W → ∀ σ G H, DenE X.K τ G σ → Hst X.K G M H → ∀ R : It → Hp → Prop,
    (∀ J ds M1 G1 H1 Ok, P ds M1 Ok → Stp G M H G1 M1 H1 → Hst X.K G1 M1 H1 → WalkD X.K J ds G1 Ok → R J H1) → CX' X.K G M H E (fun c d H2 => W c d σ H2) → tWI X false tg iter σ H R
abbrev anyM : Mem → Prop := fun _ => True
section
variable {X : Cx} {T : Bool} {tg iter e a b c : Expr} {τ : TEnv} {M : Mem} {E : XKx} {pos p : Pos} {PI' : List Dat → Mem → (Mem → Prop) → Prop}
theorem walkD_list {K : PySem.W.Frag} {G1 : Hp} {a : Addr} {vs : List V} {ds : List Dat} (hq : SqL K G1 a vs) (hd : DenL K G1 ds vs) : WalkD K (Itl K a) ds G1 anyM := fun G2 M2 H2 s h _ => by
  have hq2 : SqL K H2 a vs := h.sub.seq (s.seq hq)
  refine ⟨fun i hi => ?_, ⟨vs, hq2, by rw [hd.length]; exact Nat.le_refl _⟩, fun i x H' hi y => ?_⟩
  · obtain ⟨v, h1, _⟩ := hd.get (List.getElem?_eq_getElem hi)
    exact ⟨vs, v, hq2, h1⟩
  · obtain ⟨rfl, y2⟩ := y
    refine ⟨G2, Stp.refl, h, fun d hd' => ?_⟩
    obtain ⟨v, h1, h2⟩ := hd.get hd'
    have := y2 vs hq2
    rw [h1] at this; cases this
    exact h2.up s
theorem walkD_tup {K : PySem.W.Frag} {G1 : Hp} {a : Addr} {vs : List V} {ds : List Dat} (hq : SqT K G1 a vs) (hd : DenL K G1 ds vs) : WalkD K (Itt K a) ds G1 anyM := fun G2 M2 H2 s h _ => by
  have hq2 : SqT K H2 a vs := Same.tpl h.sub (Same.tpl s hq)
  refine ⟨fun i hi => ?_, ⟨vs, hq2, by rw [hd.length]; exact Nat.le_refl _⟩, fun i x H' hi y => ?_⟩
  · obtain ⟨v, h1, _⟩ := hd.get (List.getElem?_eq_getElem hi)
    exact ⟨vs, v, hq2, h1⟩
  · obtain ⟨rfl, y2⟩ := y
    refine ⟨G2, Stp.refl, h, fun d hd' => ?_⟩
    obtain ⟨v, h1, h2⟩ := hd.get hd'
    have := y2 vs hq2
    rw [h1] at this; cases this
    exact h2.up s
/-- a list that is a cell, and stays as it is -/
theorem walkD_cell {K : PySem.W.Frag} {G1 : Hp} {a : Addr} {ds : List Dat} : WalkD K (Itl K a) ds G1 (fun M => (a, .lst ds) ∈ M) := fun G2 M2 H2 s h hm => by
  obtain ⟨vs, h1, hd⟩ := h.mem _ hm
  have hq2 : SqL K H2 a vs := SqL.of h1
  refine ⟨fun i hi => ?_, ⟨vs, hq2, by rw [hd.length]; exact Nat.le_refl _⟩, fun i x H' hi y => ?_⟩
  · obtain ⟨v, h1, _⟩ := hd.get (List.getElem?_eq_getElem hi)
    exact ⟨vs, v, hq2, h1⟩
  · obtain ⟨rfl, y2⟩ := y
    refine ⟨G2, Stp.refl, h, fun d hd' => ?_⟩
    obtain ⟨v, h1, h2⟩ := hd.get hd'
    have := y2 vs hq2
    rw [h1] at this; cases this
    exact h2
theorem ei_list (h : EX X false e τ M (fun d M1 => ∃ ds, d = .lst ds ∧ PI' ds M1 anyM) E) : EI X tg e τ M PI' E := .mk fun W tk σ G H hE hH R hR hX => by
  refine tWI_of (pi_list pe_W) ?_
  refine h.run W tk σ G H hE hH _ ?_ hX
  intro d M1 v G1 H1 ⟨ds, ed, hp⟩ s1 h1 dv
  subst ed
  obtain ⟨a, vs, rfl, hq, hd⟩ := dv.lst_inv
  exact ⟨a, rfl, ⟨vs, h1.sub.seq (SqL.of hq)⟩, hR _ _ _ _ _ _ hp s1 h1 (walkD_list (SqL.of hq) hd)⟩
theorem ei_cell (h : EX X false e τ M (fun d M1 => ∃ a ds, d = .raw (.ref a) ∧ (a, MC.lst ds) ∈ M1 ∧ PI' ds M1 (fun M => (a, .lst ds) ∈ M)) E) : EI X tg e τ M PI' E := .mk fun W tk σ G H hE hH R hR hX => by
  refine tWI_of (pi_list pe_W) ?_
  refine h.run W tk σ G H hE hH _ ?_ hX
  intro d M1 v G1 H1 ⟨a, ds, ed, hm, hp⟩ s1 h1 dv
  subst ed
  obtain ⟨vs, g1, g2⟩ := h1.mem _ hm
  exact ⟨a, dv.raw_inv, ⟨vs, SqL.of g1⟩, hR _ _ _ _ _ _ hp s1 h1 walkD_cell⟩
theorem ei_tup (h : EX X false e τ M (fun d M1 => ∃ ds, d = .tup ds ∧ PI' ds M1 anyM) E) : EI X tg e τ M PI' E := .mk fun W tk σ G H hE hH R hR hX => by
  refine tWI_of (pi_tup pe_W) ?_
  refine h.run W tk σ G H hE hH _ ?_ hX
  intro d M1 v G1 H1 ⟨ds, ed, hp⟩ s1 h1 dv
  subst ed
  obtain ⟨a, vs, rfl, hq, hd⟩ := dv.tup_inv
  exact ⟨a, rfl, ⟨vs, Same.tpl h1.sub (SqT.of hq)⟩, hR _ _ _ _ _ _ hp s1 h1 (walkD_tup (SqT.of hq) hd)⟩
def rngD (lo : Int) (n : Nat) : List Dat := (List.range n).map fun (i : Nat) => .int (lo + (i : Int))
theorem rngD_length {lo : Int} {n : Nat} : (rngD lo n).length = n := by simp [rngD]
theorem rngD_get {lo : Int} {n i : Nat} {d : Dat} (h : (rngD lo n)[i]? = some d) : d = .int (lo + (i : Int)) ∧ i < n := by
  have hi : i < n := by have := (List.getElem?_eq_some_iff.mp h).1; rwa [rngD_length] at this
  unfold rngD at h
  rw [List.getElem?_map, List.getElem?_range hi] at h
  cases h
  exact ⟨rfl, hi⟩
theorem walkD_range {K : PySem.W.Frag} {G1 : Hp} {lo : Int} {n : Nat} : WalkD K (Itr lo n) (rngD lo n) G1 anyM := fun G2 M2 H2 s h _ => by
  rw [rngD_length]
  refine ⟨fun i hi => hi, Nat.le_refl _, fun i x H' hi y => ?_⟩
  obtain ⟨rfl, rfl⟩ := y
  refine ⟨G2, Stp.refl, h, fun d hd => ?_⟩
  rw [(rngD_get hd).1]; exact den_int
/-- range(n) -/
theorem ei_range1 (hm : X.mg "range" = none) (h : EX X false a τ M (fun d M1 => ∃ j, d = .int j ∧ (-(2 ^ 62) ≤ j ∧ j < 2 ^ 62) ∧ PI' (rngD 0 j.toNat) M1 anyM) E) (hg : Gl X "range" := by rfl) (hs : starEach [a] X.env = [(false, eval a X.env)] := by rfl) : EI X tg (.Call (.Name "range" p) [a] [] pos) τ M PI' E := .mk fun W tk σ G H hE hH R hR hX => by
  refine tWI_of (pi_range1 hg hm (pa_cons pe_W pa_nil hs) hs) ?_
  refine h.run W tk σ G H hE hH _ ?_ hX
  intro d M1 v G1 H1 ⟨j, ed, hb, hp⟩ s1 h1 dv
  subst ed
  exact ⟨j, by rw [dv.int_inv], hb.1, hb.2, hR _ _ _ _ _ _ hp s1 h1 walkD_range⟩
theorem ei_range2 (hm : X.mg "range" = none) (h : EX X false a τ M (fun d M1 => EX X false b τ M1 (fun d2 M2 => ∃ i j, d = .int i ∧ d2 = .int j ∧ (-(2 ^ 62) ≤ i ∧ i < 2 ^ 62 ∧ -(2 ^ 62) ≤ j ∧ j < 2 ^ 62) ∧ PI' (rngD i (j - i).toNat) M2 anyM) E) E) (hg : Gl X "range" := by rfl)
    (hs : starEach [a, b] X.env = [(false, eval a X.env), (false, eval b X.env)] := by rfl) (hs2 : starEach [b] X.env = [(false, eval b X.env)] := by rfl) : EI X tg (.Call (.Name "range" p) [a, b] [] pos) τ M PI' E := .mk fun W tk σ G H hE hH R hR hX => by
  refine tWI_of (pi_range2 hg hm (pa_cons pe_W (pa_cons pe_W pa_nil hs2) (by rw [hs, hs2])) hs hs2) ?_
  refine h.run W tk σ G H hE hH _ ?_ hX
  intro d M1 v G1 H1 hb s1 h1 dv
  refine hb.run W tk σ G1 H1 (hE.up s1.gg) h1 _ ?_ (hX.step s1)
  intro d2 M2 v2 G2 H2 ⟨i, j, ed, ed2, hrg, hp⟩ s2 h2 dv2
  subst ed; subst ed2
  exact ⟨i, j, by rw [dv.int_inv, dv2.int_inv], hrg, hR _ _ _ _ _ _ hp (s1.trans s2) h2 walkD_range⟩
/-- range(a, b, c), c above 0 -/
def rngC (lo c : Int) (n : Nat) : List Dat := (List.range n).map fun (i : Nat) => .int (lo + (i : Int) * c)
theorem rngC_length {lo c : Int} {n : Nat} : (rngC lo c n).length = n := by simp [rngC]
theorem rngC_get {lo c : Int} {n i : Nat} {d : Dat} (h : (rngC lo c n)[i]? = some d) : d = .int (lo + (i : Int) * c) ∧ i < n := by
  have hi : i < n := by have := (List.getElem?_eq_some_iff.mp h).1; rwa [rngC_length] at this
  unfold rngC at h
  rw [List.getElem?_map, List.getElem?_range hi] at h
  cases h
  exact ⟨rfl, hi⟩
theorem walkD_rangeC {K : PySem.W.Frag} {G1 : Hp} {lo c : Int} {n : Nat} : WalkD K (Itc lo c n) (rngC lo c n) G1 anyM := fun G2 M2 H2 s h _ => by
  rw [rngC_length]
  refine ⟨fun i hi => hi, Nat.le_refl _, fun i x H' hi y => ?_⟩
  obtain ⟨rfl, rfl⟩ := y
  refine ⟨G2, Stp.refl, h, fun d hd => ?_⟩
  rw [(rngC_get hd).1]; exact den_int
theorem ei_range3 (hm : X.mg "range" = none) (h : EX X false a τ M (fun d M1 => EX X false b τ M1 (fun d2 M2 => EX X false c τ M2 (fun d3 M3 => ∃ i j c' n, d = .int i ∧ d2 = .int j ∧ d3 = .int c' ∧ RgC i j c' n ∧ PI' (rngC i c' n) M3 anyM) E) E) E) (hg : Gl X "range" := by rfl)
    (hs : starEach [a, b, c] X.env = (false, eval a X.env) :: starEach [b, c] X.env := by rfl) (hs2 : starEach [b, c] X.env = (false, eval b X.env) :: starEach [c] X.env := by rfl) (hs3 : starEach [c] X.env = (false, eval c X.env) :: starEach [] X.env := by rfl) (hpl : (backTo pos (starEach [b, c] X.env)).any (·.1) = false := by rfl) :
    EI X tg (.Call (.Name "range" p) [a, b, c] [] pos) τ M PI' E := .mk fun W tk σ G H hE hH R hR hX => by
  refine tWI_of (pi_range3 hg hm (pa_cons pe_W (pa_cons pe_W (pa_cons pe_W pa_nil hs3) hs2) hs) hs hpl) ?_
  refine h.run W tk σ G H hE hH _ ?_ hX
  intro d M1 v G1 H1 hb s1 h1 dv
  refine hb.run W tk σ G1 H1 (hE.up s1.gg) h1 _ ?_ (hX.step s1)
  intro d2 M2 v2 G2 H2 hb2 s2 h2 dv2
  refine hb2.run W tk σ G2 H2 ((hE.up s1.gg).up s2.gg) h2 _ ?_ ((hX.step s1).step s2)
  intro d3 M3 v3 G3 H3 ⟨i, j, c', n, ed, ed2, ed3, hrg, hp⟩ s3 h3 dv3
  subst ed; subst ed2; subst ed3
  exact ⟨i, j, c', n, by rw [dv.int_inv, dv2.int_inv, dv3.int_inv], hrg, hR _ _ _ _ _ _ hp ((s1.trans s2).trans s3) h3 walkD_rangeC⟩
/-- a text, sign by sign -/
def sgnD (z : Str) : List Dat := z.cps.toList.map fun c => .str ⟨#[c]⟩
theorem walkD_str {K : PySem.W.Frag} {G1 : Hp} {z : Str} : WalkD K (Its z) (sgnD z) G1 anyM := fun G2 M2 H2 s h _ => by
  have hl : (sgnD z).length = z.cps.size := by simp [sgnD]
  rw [hl]
  refine ⟨fun i hi => hi, Nat.le_refl _, fun i x H' hi y => ?_⟩
  obtain ⟨rfl, c, h1, rfl⟩ := y
  refine ⟨G2, Stp.refl, h, fun d hd => ?_⟩
  unfold sgnD at hd
  rw [List.getElem?_map, Array.getElem?_toList, h1] at hd
  cases hd
  exact den_str
theorem ei_str (h : EX X false e τ M (fun d M1 => ∃ z, d = .str z ∧ PI' (sgnD z) M1 anyM) E) : EI X tg e τ M PI' E := .mk fun W tk σ G H hE hH R hR hX => by
  refine tWI_of (pi_str pe_W) ?_
  refine h.run W tk σ G H hE hH _ ?_ hX
  intro d M1 v G1 H1 ⟨z, ed, hp⟩ s1 h1 dv
  subst ed
  exact ⟨z, dv.str_inv, hR _ _ _ _ _ _ hp s1 h1 walkD_str⟩
/-- enumerate(list) -/
def enuD (ds : List Dat) : List Dat := ds.zipIdx.map fun q => .tup [.int (q.2 : Int), q.1]
theorem enuD_length {ds : List Dat} : (enuD ds).length = ds.length := by simp [enuD]
theorem enuD_get {ds : List Dat} {i : Nat} {d : Dat} (h : (enuD ds)[i]? = some d) : ∃ x, ds[i]? = some x ∧ d = .tup [.int (i : Int), x] := by
  unfold enuD at h
  rw [List.getElem?_map, List.getElem?_zipIdx] at h
  cases e : ds[i]? with
  | none => rw [e] at h; cases h
  | some x => rw [e] at h; simp at h; exact ⟨x, rfl, h.symm⟩
theorem walkD_enum {K : PySem.W.Frag} {G1 : Hp} {a : Addr} {vs : List V} {ds : List Dat} (hq : SqL K G1 a vs) (hd : DenL K G1 ds vs) : WalkD K (Ite K a) (enuD ds) G1 anyM := fun G2 M2 H2 s h _ => by
  have hq2 : SqL K H2 a vs := h.sub.seq (s.seq hq)
  rw [enuD_length]
  refine ⟨fun i hi => ?_, ⟨vs, hq2, by rw [hd.length]; exact Nat.le_refl _⟩, fun i x H' hi y => ?_⟩
  · obtain ⟨v, h1, _⟩ := hd.get (List.getElem?_eq_getElem hi)
    exact ⟨vs, v, hq2, h1⟩
  · obtain ⟨T, x', rfl, hT, rfl, y2⟩ := y
    obtain ⟨s3, h3⟩ := Stp.new (o := .tup [.int (i : Nat), x']) h hT
    refine ⟨_, s3, h3, fun d hd' => ?_⟩
    obtain ⟨z, hz, rfl⟩ := enuD_get hd'
    obtain ⟨v, h1, h2⟩ := hd.get hz
    have := y2 vs hq2
    rw [h1] at this; cases this
    exact den_tup upd_same (.cons den_int (.cons ((h2.up s).up s3.gg) .nil))
theorem ei_enum {elts : List Expr} {kk : Nat} {tpos : Pos} (hm : X.mg "enumerate" = none) (h : EX X false e τ M (fun d M1 => ∃ ds, d = .lst ds ∧ PI' (enuD ds) M1 anyM) E) (hg : Gl X "enumerate" := by rfl) (hs : starEach [e] X.env = [(false, eval e X.env)] := by rfl) : EI X (.Tuple elts kk tpos) (.Call (.Name "enumerate" p) [e] [] pos) τ M PI' E := .mk fun W tk σ G H hE hH R hR hX => by
  refine tWI_of (pi_enum hg hm (pa_cons pe_W pa_nil hs) hs) ?_
  refine h.run W tk σ G H hE hH _ ?_ hX
  intro d M1 v G1 H1 ⟨ds, ed, hp⟩ s1 h1 dv
  subst ed
  obtain ⟨a, vs, rfl, hq, hd⟩ := dv.lst_inv
  exact ⟨a, vs, rfl, h1.sub.seq (SqL.of hq), hR _ _ _ _ _ _ hp s1 h1 (walkD_enum (SqL.of hq) hd)⟩

/-! ### for -/
theorem s_for {body : List Stmt} {σ : L2.St} {H : Hp} {D : Ends} (hp : PassesOwn (model X.prog X.w) X.A X.env X.xe) (hc : X.calm = true) (hs : ∀ x, foldedSetIterable iter X.env x = pure x)
    (q : tWI X false tg iter σ H fun J H1 => ∃ Wm : Nat → Nat → L2.St → Hp → Prop, (∃ m, Wm 0 m σ H1) ∧ ∀ i m σ H, Wm i m σ H →
      (J.stop i H ∧ D.nx σ H) ∨ (J.go i H ∧ ∃ N : L2.St → Hp → Prop, (∀ σ' H', N σ' H' → ∃ m', m' < m ∧ Wm (i + 1) m' σ' H') ∧ ∀ x H', J.yld i H x H' → tWG X T tg x σ H' fun σ2 H2 => tWSs X T body { D with nx := N, ct := N, bk := D.nx } σ2 H2)) :
    tWS X T (.For tg iter body [] pos) D σ H := fun pins s k0 I => by
  refine wpAny_For (thnT k0 (q pins s tk_f I) fun v s1 k1 h1 => thnT k1 h1 fun itv s2 k2 h2 => ?_) hs
  obtain ⟨it, fp, tn, J, H2, e, I2, Tu, st2, f2, Wm, ⟨m0, w0⟩, turn⟩ := h2
  subst e
  have stat : ∀ {H' : Hp}, (∀ b ∈ fp, H' b = none) → ∀ b ∈ fp, FpOk X pins H' b := fun hn b hb => ⟨hn b hb, (f2 b hb).2⟩
  refine codeAny_forLoop_any (fun n s' => Tk T s' ∧ ∃ i σ' H', Inv X pins σ' H' s' ∧ tn i s'.heap ∧ (∀ b ∈ fp, H' b = none) ∧ Wm i n σ' H') ?_ m0 ⟨k2, 0, σ, H2, I2, st2, fun b hb => (f2 b hb).1, w0⟩
  rintro n s3 ⟨k3, i, σ3, H3, I3, st3, fr3, w3⟩
  rcases turn i n σ3 H3 w3 with ⟨stop, qn⟩ | ⟨go, N, hN, step⟩
  · refine wpAny_passesOwn hp (thn (Tu.done X rfl rfl rfl hc i pins s3 σ3 H3 X.xe I3 (stat fr3) st3 stop) fun r s4 ⟨hr, I4⟩ => ?_)
    subst hr
    exact wpAny_execs_nil ⟨σ3, H3, I4, qn⟩
  · refine wpAny_passesOwn hp (thnT k3 (Tu.item X rfl rfl rfl hc i pins s3 σ3 H3 X.xe I3 (stat fr3) st3 go) fun r s4 k4 ⟨u, hr, h4⟩ => ?_)
    subst hr
    refine wpAny_passesOwn hp (thnT k4 h4 fun _ s5 k5 ⟨x, H5, I5, r5, y5, st5, fr5⟩ => ?_)
    have J5 := I5.pinned (stat fr5) (Tu.obj _ _ st5)
    refine wpAny_passesOwn hp (thnT k5 (step x H5 y5 _ s5 u k5 J5 r5) fun _ s6 k6 ⟨σ6, H6, I6, q6⟩ => ?_)
    refine wpAny_passesOwn hp (thnT k6 (q6 _ s6 k6 I6) fun f s7 k7 q7 => ?_)
    have pinA : ∀ {σ7 : L2.St} {H7 : Hp}, Inv X (pins ++ pinsAt fp s5.heap) σ7 H7 s7 → ∀ b ∈ fp, ∀ o, s5.heap.get? b = some o → s7.heap.get? b = some o ∧ H7 b = none := fun {σ7 H7} I7 b hb o e =>
      have z := I7.pin (b, o) (List.mem_append_right _ (List.mem_append_right _ (mem_pinsAt hb e)))
      ⟨z.1, z.2.1⟩
    have again : ∀ {σ7 : L2.St} {H7 : Hp}, Inv X (pins ++ pinsAt fp s5.heap) σ7 H7 s7 → N σ7 H7 → ∃ m, m < n ∧ (Tk T s7 ∧ ∃ i σ' H', Inv X pins σ' H' s7 ∧ tn i s7.heap ∧ (∀ b ∈ fp, H' b = none) ∧ Wm i m σ' H') := fun {σ7 H7} I7 n7 => by
      obtain ⟨m', hm, w7⟩ := hN σ7 H7 n7
      refine ⟨m', hm, k7, i + 1, σ7, H7, I7.unpinned, Tu.keep _ _ _ st5 fun b hb o e => (pinA I7 b hb o e).1, fun b hb => ?_, w7⟩
      obtain ⟨o, e, d⟩ := Tu.obj _ _ st5 b hb
      exact (pinA I7 b hb o e).2
    cases f with
    | next => obtain ⟨σ7, H7, I7, n7⟩ := q7; exact again I7 n7
    | cont => obtain ⟨σ7, H7, I7, n7⟩ := q7; exact again I7 n7
    | brk => obtain ⟨σ7, H7, I7, q7⟩ := q7; exact ⟨σ7, H7, I7.unpinned, q7⟩
    | ret u' => obtain ⟨v7, σ7, H7, I7, r7, q7⟩ := q7; exact ⟨v7, σ7, H7, I7.unpinned, r7, q7⟩
theorem ws_for {body rest : List Stmt} {R : RK} (hi : EI X tg iter τ M (fun ds M1 Ok => ∃ I : Nat → TEnv → Mem → Prop, I 0 τ M1 ∧ (∀ i τ M, I i τ M → Ok M) ∧
      (∀ i d τ M, ds[i]? = some d → I i τ M → GX X T tg d τ M (fun τ2 M2 => WS X T body τ2 M2 (loopR (I (i + 1)) (fun τ M => WS X T rest τ M R) R)) (fun x M2 => R (.ex x τ) M2)) ∧
      (∀ τ M, I ds.length τ M → WS X T rest τ M R)) (fun x M1 => R (.ex x τ) M1))
    (hp : PassesOwn (model X.prog X.w) X.A X.env X.xe := by first | exact PassesOwn.never | exact passes_of rfl | assumption) (hc : X.calm = true := by rfl) (hs : ∀ x, foldedSetIterable iter X.env x = pure x := by intro _; rfl) : WS X T (.For tg iter body [] pos :: rest) τ M R := .mk fun W tk σ G H hE hH D hR => by
  refine ws_step' (s_for hp hc hs ?_)
  refine hi.run W tk σ G H hE hH _ ?_ (ex_out hR hE)
  intro J ds M1 G1 H1 Ok ⟨I, h0, hOk, hb, hd⟩ s1 h1 w
  let Pv : Nat → L2.St → Hp → Prop := fun i σ' H' => ∃ τ' M' G', I i τ' M' ∧ DenE X.K τ' G' σ' ∧ Hst X.K G' M' H' ∧ Stp G M H G' M' H' ∧ Same G1 G'
  refine ⟨fun i m σ' H' => m = ds.length - i ∧ i ≤ ds.length ∧ Pv i σ' H', ⟨_, rfl, Nat.zero_le _, τ, M1, G1, h0, hE.up s1.gg, h1, s1, Same.refl _⟩, ?_⟩
  rintro i m σ' H' ⟨rfl, hle, τ', M', G', hI, e', h', s', g'⟩
  obtain ⟨w1, w2, w3⟩ := w G' M' H' g' h' (hOk _ _ _ hI)
  by_cases hlt : i < ds.length
  · refine .inr ⟨w1 i hlt, fun σ2 H2 => Pv (i + 1) σ2 H2, fun σ2 H2 q => ⟨ds.length - (i + 1), by omega, rfl, hlt, q⟩, fun x H2 y => ?_⟩
    obtain ⟨G2, s2, h2, dx⟩ := w3 i x H2 hlt y
    have hd' := List.getElem?_eq_getElem hlt
    refine (hb i _ τ' M' hd' hI).run W tk σ' G2 H2 x (e'.up s2.gg) h2 (dx _ hd') _ ?_ ?_
    · intro τ3 M3 G3 H3 σ3 b3 s3 h3 e3
      refine b3.run W tk σ3 G3 H3 e3 h3 _ ?_
      intro o M4 G4 H4 r4 s4 h4
      have st := ((s'.trans s2).trans s3).trans s4
      cases o with
      | nx τ4 => exact fun σ4 e4 => ⟨τ4, M4, G4, r4, e4, h4, st, ((g'.trans s2.gg).trans s3.gg).trans s4.gg⟩
      | ct τ4 => exact fun σ4 e4 => ⟨τ4, M4, G4, r4, e4, h4, st, ((g'.trans s2.gg).trans s3.gg).trans s4.gg⟩
      | bk τ4 => exact fun σ4 e4 => r4.run W tk σ4 G4 H4 e4 h4 D (hR.step st)
      | rt d4 => exact hR _ _ _ _ r4 st h4
      | ex x4 τ4 => exact hR _ _ _ _ r4 st h4
    · exact fun x4 M4 G4 H4 d4 r4 s4 h4 dx4 => hR _ _ _ _ r4 ((s'.trans s2).trans s4) h4 σ' d4 ((e'.up s2.gg).up s4.gg) dx4
  · have e : i = ds.length := by omega
    subst e
    exact .inl ⟨w2, (hd τ' M' hI).run W tk σ' G' H' e' h' D (hR.step s')⟩

/-! ### while -/
theorem s_while {t : Expr} {body : List Stmt} {σ : L2.St} {H : Hp} {D : Ends} (hp : PassesOwn (model X.prog X.w) X.A X.env X.xe)
    (q : ∃ Wm : Nat → L2.St → Hp → Prop, (∃ m, Wm m σ H) ∧ ∀ m σ H, Wm m σ H → tWT X T t σ H fun b H1 => if b = true then ∃ N : L2.St → Hp → Prop, (∀ σ' H', N σ' H' → ∃ m', m' < m ∧ Wm m' σ' H') ∧ tWSs X T body { D with nx := N, ct := N, bk := D.nx } σ H1 else D.nx σ H1) :
    tWS X T (.While t body [] pos) D σ H := fun pins s k0 I => by
  obtain ⟨Wm, ⟨m0, w0⟩, turn⟩ := q
  refine wpAny_While (codeAny_whileLoop (fun n s' => Tk T s' ∧ ∃ σ' H', Inv X pins σ' H' s' ∧ Wm n σ' H') ?_ m0 ⟨k0, σ, H, I, w0⟩)
  rintro n s1 ⟨k1, σ1, H1, I1, w1⟩
  refine wpAny_passesOwn hp (thnT k1 (turn n σ1 H1 w1 pins s1 k1 I1) fun b s2 k2 ⟨H2, I2, q2⟩ => ?_)
  cases b with
  | false => exact wpAny_execs_nil ⟨σ1, H2, I2, q2⟩
  | true =>
    obtain ⟨N, hN, q2⟩ := q2
    rw [if_pos rfl]
    have again : ∀ {s3 : Shared} {σ3 : L2.St} {H3 : Hp}, Tk T s3 → Inv X pins σ3 H3 s3 → N σ3 H3 → ∃ m', m' < n ∧ (Tk T s3 ∧ ∃ σ' H', Inv X pins σ' H' s3 ∧ Wm m' σ' H') := fun {s3 σ3 H3} k3 I3 n3 => by
      obtain ⟨m', hm, w3⟩ := hN σ3 H3 n3
      exact ⟨m', hm, k3, σ3, H3, I3, w3⟩
    refine wpAny_passesOwn hp (thnT k2 (q2 pins s2 k2 I2) fun f s3 k3 q3 => ?_)
    cases f with
    | next => obtain ⟨σ3, H3, I3, n3⟩ := q3; exact again k3 I3 n3
    | cont => obtain ⟨σ3, H3, I3, n3⟩ := q3; exact again k3 I3 n3
    | brk => exact q3
    | ret v => exact q3
theorem ws_while {t : Expr} {body rest : List Stmt} {R : RK} (I : Nat → TEnv → Mem → Prop) (h0 : ∃ m, I m τ M)
    (hb : ∀ m τ M, I m τ M → ET X T t τ M (fun k M1 => (k = true → WS X T body τ M1 (loopR (fun τ2 M2 => ∃ m', m' < m ∧ I m' τ2 M2) (fun τ M => WS X T rest τ M R) R)) ∧ (k = false → WS X T rest τ M1 R)) (fun x M2 => R (.ex x τ) M2))
    (hp : PassesOwn (model X.prog X.w) X.A X.env X.xe := by first | exact PassesOwn.never | exact passes_of rfl | assumption) : WS X T (.While t body [] pos :: rest) τ M R := .mk fun W tk σ G H hE hH D hR => by
  refine ws_step' (s_while hp ?_)
  let Pv : Nat → L2.St → Hp → Prop := fun m σ' H' => ∃ τ' M' G', I m τ' M' ∧ DenE X.K τ' G' σ' ∧ Hst X.K G' M' H' ∧ Stp G M H G' M' H'
  obtain ⟨m0, i0⟩ := h0
  refine ⟨Pv, ⟨m0, τ, M, G, i0, hE, hH, Stp.refl⟩, ?_⟩
  rintro m σ' H' ⟨τ', M', G', hI, e', h', s'⟩
  refine (hb m τ' M' hI).run W tk σ' G' H' e' h' _ ?_ ?_
  · intro k M1 G1 H1 ⟨k1, k2⟩ s1 h1
    cases k with
    | false => exact iteF ((k2 rfl).run W tk σ' G1 H1 (e'.up s1.gg) h1 D (hR.step (s'.trans s1)))
    | true =>
      refine iteT ?_
      have fin : ∀ {G4 H4 : Hp} {M4 : Mem} {τ4 : TEnv}, (∃ m', m' < m ∧ I m' τ4 M4) → Stp G1 M1 H1 G4 M4 H4 → Hst X.K G4 M4 H4 → ∀ σ4, DenE X.K τ4 G4 σ4 → ∃ m', m' < m ∧ Pv m' σ4 H4 := fun {G4 H4 M4 τ4} ⟨m', hm, hi⟩ s4 h4 σ4 e4 => ⟨m', hm, τ4, M4, G4, hi, e4, h4, (s'.trans s1).trans s4⟩
      refine ⟨fun σ4 H4 => ∃ m', m' < m ∧ Pv m' σ4 H4, fun _ _ q => q, ?_⟩
      refine (k1 rfl).run W tk σ' G1 H1 (e'.up s1.gg) h1 _ ?_
      intro o M4 G4 H4 r4 s4 h4
      have st := (s'.trans s1).trans s4
      cases o with
      | nx τ4 => exact fin r4 s4 h4
      | ct τ4 => exact fin r4 s4 h4
      | bk τ4 => exact fun σ4 e4 => r4.run W tk σ4 G4 H4 e4 h4 D (hR.step st)
      | rt d4 => exact hR _ _ _ _ r4 st h4
      | ex x4 τ4 => exact hR _ _ _ _ r4 st h4
  · exact fun x4 M4 G4 H4 d4 r4 s4 h4 dx4 => hR _ _ _ _ r4 (s'.trans s4) h4 σ' d4 (e'.up s4.gg) dx4

/-! ### targets of several names -/
theorem pgs_W {ts : List Expr} : PGs X ts (tWGs X false ts) := ⟨fun pins s σ H vs us Q I r h => h pins s us tk_f I r⟩
structure GXs (X : Cx) (T : Bool) (ts : List Expr) (ds : List Dat) (τ : TEnv) (M : Mem) (P : TEnv → Mem → Prop) : Prop where
  run : ∀ W, Takes X W → ∀ σ G H vs, DenE X.K τ G σ → Hst X.K G M H → DenL X.K G ds vs → ∀ Q, CG' X.K G M H P Q → tWGs X T ts vs σ H Q
theorem gxs_nil {P : TEnv → Mem → Prop} (h : P τ M) : GXs X false [] [] τ M P := .mk fun W tk σ G H vs hE hH dv Q hP pins s us _ I r => by
  rw [dv.nil_inv] at r
  exact pgs_nil.run pins s σ H [] us Q I r ⟨rfl, hP _ _ _ _ _ h Stp.refl hH hE⟩
theorem gxs_cons {t : Expr} {ts : List Expr} {d : Dat} {ds : List Dat} {P : TEnv → Mem → Prop} (h : GX X false t d τ M (fun τ1 M1 => GXs X false ts ds τ1 M1 P) E0')
    (he : (assignEach (t :: ts) X.env).map (·.2) = assign t X.env :: (assignEach ts X.env).map (·.2) := by rfl) : GXs X false (t :: ts) (d :: ds) τ M P := .mk fun W tk σ G H vs hE hH dv Q hP pins s us _ I r => by
  obtain ⟨v, vr, rfl, d1, d2⟩ := dv.cons_inv
  refine (pgs_cons pg_W pgs_W he).run pins s σ H _ us Q I r ⟨v, vr, rfl, ?_⟩
  exact h.run W tk σ G H v hE hH d1 _ (fun τ2 M2 G2 H2 σ2 p2 s2 h2 e2 => p2.run W tk σ2 G2 H2 vr e2 h2 (d2.up s2.gg) Q (hP.step s2)) noX
theorem gx_tup {es : List Expr} {k : Nat} {ds : List Dat} {P : TEnv → Mem → Prop} (h : GXs X false es ds τ M P) (hl : ds.length = (assignEach es X.env).length := by rfl) (hc : X.calm = true := by rfl)
    (hst : (assignEach es X.env).findIdx? (·.1) = none := by rfl) : GX X T (.Tuple es k pos) (.tup ds) τ M P E := .mk fun W tk σ G H v hE hH dv Q hP hX => by
  obtain ⟨a, vs, rfl, hq, hd⟩ := dv.tup_inv
  exact tWG_of (pg_tup hc pgs_W rfl hst) ⟨a, vs, rfl, Same.tpl hH.sub (SqT.of hq), by rw [hd.length, hl], h.run W tk σ G H vs hE hH hd Q hP⟩
end
end Kh

set_option Elab.async false
set_option linter.all false
set_option maxRecDepth 100000
set_option maxHeartbeats 1000000
namespace Kh
open PySem PySem.Spec L2

/-! ### slots that a comprehension wipes -/
theorem wipe_get {σ : L2.St} : ∀ {vs : List Nat} {j : Nat}, (wipe σ vs)[j]? = if j ∈ vs ∧ j < σ.length then some none else σ[j]?
  | [], j => by simp [wipe]
  | v :: vs, j => by
    show ((wipe σ vs).set v none)[j]? = _
    by_cases h : v = j
    · subst h
      by_cases hl : v < σ.length
      · rw [List.getElem?_set_self (by rw [wipe_length]; exact hl), if_pos ⟨List.mem_cons_self, hl⟩]
      · rw [if_neg (fun z => hl z.2), List.getElem?_eq_none (by rw [List.length_set, wipe_length]; omega), List.getElem?_eq_none (by omega)]
    · rw [List.getElem?_set_ne h, wipe_get]
      by_cases hm : j ∈ vs
      · simp [hm]
      · have : ¬ j ∈ v :: vs := fun z => (List.mem_cons.mp z).elim (fun e => h e.symm) hm
        simp [hm, this]
theorem wipe_ext {σ σ' : L2.St} {vs : List Nat} (hl : σ'.length = σ.length) (h : ∀ j, j ∉ vs → σ'[j]? = σ[j]?) : wipe σ' vs = wipe σ vs := by
  apply List.ext_getElem?
  intro j
  rw [wipe_get, wipe_get, hl]
  by_cases c : j ∈ vs ∧ j < σ.length
  · rw [if_pos c, if_pos c]
  · rw [if_neg c, if_neg c]
    by_cases m : j ∈ vs
    · have : ¬ j < σ.length := fun z => c ⟨m, z⟩
      rw [List.getElem?_eq_none (by omega), List.getElem?_eq_none (by omega)]
    · exact h j m
theorem wipe_wipe {σ : L2.St} {vs : List Nat} : wipe (wipe σ vs) vs = wipe σ vs := wipe_ext (wipe_length σ vs) fun j hj => by
  rw [wipe_get, if_neg (fun z => hj z.1)]
/-- the data of the slots that a comprehension wipes -/
def wipeT (τ : TEnv) : List Nat → TEnv
  | [] => τ
  | v :: vs => (wipeT τ vs).set v none
theorem denE_wipe {K : PySem.W.Frag} {G : Hp} {τ : TEnv} {σ : L2.St} (h : DenE K τ G σ) : ∀ (vs : List Nat), DenE K (wipeT τ vs) G (wipe σ vs)
  | [] => h
  | v :: vs => fun j d e => by
    have e' : ((wipeT τ vs).set v none)[j]? = some (some d) := e
    show ∃ u, ((wipe σ vs).set v none)[j]? = some (some u) ∧ _
    by_cases c : v = j
    · subst c
      by_cases hl : v < (wipeT τ vs).length
      · rw [List.getElem?_set_self hl] at e'; cases e'
      · rw [List.getElem?_eq_none (by simpa using hl)] at e'; cases e'
    · rw [List.getElem?_set_ne c] at e' ⊢
      exact denE_wipe h vs j d e'

/-! ### a comprehension's block -/
abbrev Cx.Bk (X : Cx) (scope : Scope) (s : Shared) (H : Hp) (C : Addr) (cl : List (Str × Addr)) (fp : List Addr) : Cx := X.blk s H scope (compEnvC scope cl C X.env) fp
/-- a store at a comprehension's target: slots of vs alone change -/
def GC (X : Cx) (vs : List Nat) (tg : Expr) (d : Dat) (τ : TEnv) (M : Mem) (P : TEnv → Mem → Prop) : Prop :=
  ∀ σ G H v, DenE X.K τ G σ → Hst X.K G M H → Den X.K G d v → ∀ Q, (∀ τ' M' G' H' σ', P τ' M' → Stp G M H G' M' H' → Hst X.K G' M' H' → DenE X.K τ' G' σ' → σ'.length = σ.length → (∀ j, j ∉ vs → σ'[j]? = σ[j]?) → Q σ' H') → tWG X false tg v σ H Q
def GCs (X : Cx) (vs : List Nat) (ts : List Expr) (ds : List Dat) (τ : TEnv) (M : Mem) (P : TEnv → Mem → Prop) : Prop :=
  ∀ σ G H ws, DenE X.K τ G σ → Hst X.K G M H → DenL X.K G ds ws → ∀ Q, (∀ τ' M' G' H' σ', P τ' M' → Stp G M H G' M' H' → Hst X.K G' M' H' → DenE X.K τ' G' σ' → σ'.length = σ.length → (∀ j, j ∉ vs → σ'[j]? = σ[j]?) → Q σ' H') → tWGs X false ts ws σ H Q
section
variable {X : Cx} {T : Bool} {tg iter elt e a b c : Expr} {τ : TEnv} {M : Mem} {E : XKx} {pos p : Pos} {vs : List Nat} {P : PK'}
theorem gc_name {x : Str} {d : Dat} {P : TEnv → Mem → Prop} (h : P (τ.set (ixIn X.N x) (some d)) M) (hv : ixIn X.N x ∈ vs := by first | decide | exact of_decide_eq_true (by kernel_rfl)) (hi : X.N[ixIn X.N x]? = some x := by rfl) (hx : Loc X.env.scope x := by first | exact Or.inl rfl | exact Or.inr rfl) (hN : X.N.Nodup := by first | decide +kernel | exact of_decide_eq_true (by kernel_rfl))
    (hf : X.fn x = true ∨ X.env.scope.names.lookup x = some .local := by first | exact .inl rfl | exact .inr rfl | assumption) : GC X vs (.Name x p) d τ M P := fun σ G H v hE hH dv Q hQ => tWG_len fun hl => by
  refine tWG_of (pg_name hN hi hx hf) ?_
  have hlt : ixIn X.N x < σ.length := by rw [hl]; exact (List.getElem?_eq_some_iff.mp hi).1
  exact hQ _ _ _ _ _ h Stp.refl hH (hE.set hlt dv) (List.length_set) fun j hj => List.getElem?_set_ne (fun z => hj (by rw [← z]; exact hv))
theorem gcs_nil {P : TEnv → Mem → Prop} (h : P τ M) : GCs X vs [] [] τ M P := fun σ G H ws hE hH dv Q hQ pins s us _ I r => by
  rw [dv.nil_inv] at r
  exact pgs_nil.run pins s σ H [] us Q I r ⟨rfl, hQ _ _ _ _ _ h Stp.refl hH hE rfl fun _ _ => rfl⟩
theorem gcs_cons {t : Expr} {ts : List Expr} {d : Dat} {ds : List Dat} {P : TEnv → Mem → Prop} (h : GC X vs t d τ M (fun τ1 M1 => GCs X vs ts ds τ1 M1 P))
    (he : (assignEach (t :: ts) X.env).map (·.2) = assign t X.env :: (assignEach ts X.env).map (·.2) := by rfl) : GCs X vs (t :: ts) (d :: ds) τ M P := fun σ G H ws hE hH dv Q hQ pins s us _ I r => by
  obtain ⟨v, vr, rfl, d1, d2⟩ := dv.cons_inv
  refine (pgs_cons pg_W pgs_W he).run pins s σ H _ us Q I r ⟨v, vr, rfl, ?_⟩
  refine h σ G H v hE hH d1 _ (fun τ2 M2 G2 H2 σ2 p2 s2 h2 e2 l2 k2 => p2 σ2 G2 H2 vr e2 h2 (d2.up s2.gg) Q (fun τ3 M3 G3 H3 σ3 p3 s3 h3 e3 l3 k3 => hQ _ _ _ _ _ p3 (s2.trans s3) h3 e3 (l3.trans l2) fun j hj => (k3 j hj).trans (k2 j hj)))
theorem gc_tup {es : List Expr} {k : Nat} {ds : List Dat} {P : TEnv → Mem → Prop} (h : GCs X vs es ds τ M P) (hl : ds.length = (assignEach es X.env).length := by rfl) (hc : X.calm = true := by rfl)
    (hst : (assignEach es X.env).findIdx? (·.1) = none := by rfl) : GC X vs (.Tuple es k pos) (.tup ds) τ M P := fun σ G H v hE hH dv Q hQ => by
  obtain ⟨a, ws, rfl, hq, hd⟩ := dv.tup_inv
  exact tWG_of (pg_tup hc pgs_W rfl hst) ⟨a, ws, rfl, Same.tpl hH.sub (SqT.of hq), by rw [hd.length, hl], h σ G H ws hE hH hd Q hQ⟩
/-- the tests of a clause -/
def tWIf (X : Cx) (ifs : List Expr) : TT := fun σ H Q => ∀ pins s, Inv X pins σ H s →
    wpAny (model X.prog X.w) X.A (forIn ifs true fun c r => if r = true then do let ok ← isTrue c X.env (eval c X.env); pure (ForInStep.yield ok) else pure (ForInStep.yield r)) (TP X pins σ Q) X.xe s
theorem pts_W {ifs : List Expr} : PTs X ifs (tWIf X ifs) := ⟨fun pins s σ H Q I h => h pins s I⟩
def EFs (X : Cx) (ifs : List Expr) (τ : TEnv) (M : Mem) (P : Bool → Mem → Prop) : Prop :=
  ∀ σ G H, DenE X.K τ G σ → Hst X.K G M H → ∀ Q, CT' X.K G M H P Q → tWIf X ifs σ H Q
theorem ef_nil {P : Bool → Mem → Prop} (h : P true M) : EFs X [] τ M P := fun σ G H hE hH Q hQ pins s I => pts_nil.run pins s σ H Q I (hQ _ _ _ _ h Stp.refl hH)
theorem ef_one {P : Bool → Mem → Prop} (h : ET X false c τ M P E0') : EFs X [c] τ M P := fun σ G H hE hH Q hQ pins s I => (pts_one pt_W).run pins s σ H Q I (h.run _ takes0 σ G H hE hH Q hQ noX)

def gFam (X : Cx) (scope : Scope) (tg : Expr) : TG := fun v σ H Q => ∀ (s : Shared) (H0 : Hp) (C : Addr) (cl : List (Str × Addr)) (fp : List Addr), tWG (Cx.Bk X scope s H0 C cl fp) false tg v σ H Q
def iFam (X : Cx) (scope : Scope) (ifs : List Expr) : TT := fun σ H Q => ∀ (s : Shared) (H0 : Hp) (C : Addr) (cl : List (Str × Addr)) (fp : List Addr), tWIf (Cx.Bk X scope s H0 C cl fp) ifs σ H Q
def eFam (X : Cx) (scope : Scope) (elt : Expr) : TE := fun σ H Q => ∀ (s : Shared) (H0 : Hp) (C : Addr) (cl : List (Str × Addr)) (fp : List Addr), tW (Cx.Bk X scope s H0 C cl fp) false elt σ H Q
theorem pg_fam {scope : Scope} (s : Shared) (H0 : Hp) (C : Addr) (cl : List (Str × Addr)) (fp : List Addr) : PG (Cx.Bk X scope s H0 C cl fp) tg (gFam X scope tg) := ⟨fun pins s' σ H' v u Q I r q => q s H0 C cl fp pins s' u tk_f I r⟩
theorem pt_fam {scope : Scope} {ifs : List Expr} (s : Shared) (H0 : Hp) (C : Addr) (cl : List (Str × Addr)) (fp : List Addr) : PTs (Cx.Bk X scope s H0 C cl fp) ifs (iFam X scope ifs) := ⟨fun pins s' σ H' Q I q => q s H0 C cl fp pins s' I⟩
theorem pe_fam {scope : Scope} (s : Shared) (H0 : Hp) (C : Addr) (cl : List (Str × Addr)) (fp : List Addr) : PE (Cx.Bk X scope s H0 C cl fp) elt (eFam X scope elt) := ⟨fun pins s' σ H' Q I q => q s H0 C cl fp pins s' tk_f I⟩
/-- the reading of a comprehension: the new list is P's -/
theorem lc_read {scope : Scope} (hi : EI X tg iter τ M (fun ds M1 Ok => ds.length ≤ sizeLine ∧ ∃ I : Nat → List Dat → Mem → Prop, I 0 [] M1 ∧ (∀ i acc M, I i acc M → Ok M) ∧
      (∀ i d acc M, ds[i]? = some d → I i acc M → ∀ (s : Shared) (H : Hp) (C : Addr) (cl : List (Str × Addr)) (fp : List Addr), GC (Cx.Bk X scope s H C cl fp) vs tg d (wipeT τ vs) M (fun τ2 M2 => ∀ (s : Shared) (H : Hp) (C : Addr) (cl : List (Str × Addr)) (fp : List Addr),
        EFs (Cx.Bk X scope s H C cl fp) ifs τ2 M2 (fun b M3 => (b = true → ∀ (s : Shared) (H : Hp) (C : Addr) (cl : List (Str × Addr)) (fp : List Addr), EX (Cx.Bk X scope s H C cl fp) false elt τ2 M3 (fun y M4 => I (i + 1) (acc ++ [y]) M4) E0') ∧ (b = false → I (i + 1) acc M3)))) ∧
      (∀ acc M, I ds.length acc M → P (.lst acc) M)) E)
    {W : WX} (tk : Takes X W) {σ : L2.St} {G H : Hp} (hE : DenE X.K τ G σ) (hH : Hst X.K G M H) {Q : VK} (hP : CE' X.K G M H P Q) (hX : CX' X.K G M H E (fun c d H2 => W c d σ H2)) :
    tLc (tWI X false tg iter) (gFam X scope tg) (iFam X scope ifs) (eFam X scope elt) vs σ H Q := by
  refine hi.run W tk σ G H hE hH _ ?_ hX
  intro J ds M1 G1 H1 Ok ⟨hz, I, h0, hOk, hb, hd⟩ s1 h1 w D hD
  have hDH : ∀ b o, b ∉ adr M → H b = some o → b ≠ D := fun b o n e z => by rw [← z, s1.hh b o n e] at hD; cases hD
  -- the new list at D, beside
  have gD : ∀ {G' H' : Hp} {M' : Mem}, Hst X.K G' M' H' → H' D ≠ none → True := fun _ _ => trivial
  let Pv : Nat → Hp → Prop := fun i H' => ∃ acc aV M' G', I i acc M' ∧ acc.length ≤ i ∧ Hst X.K G' M' H' ∧ Stp G M H G' M' H' ∧ Same G1 G' ∧ H' D = some (.lst aV) ∧ DenL X.K G' acc aV ∧ G' D = none ∧ D ∉ adr M'
  have laid : ∀ {G' H' : Hp} {M' : Mem} {xs : List V}, Hst X.K G' M' H' → G' D = none → D ∉ adr M' → Hst X.K G' M' (upd H' D (.lst xs)) := fun {G' H' M' xs} h g n =>
    ⟨fun b o e => by rw [upd_ne (fun z => by rw [z, g] at e; cases e)]; exact h.sub b o e, fun c hc => (h.mem c hc).up (Same.refl _) fun b hb o e => by rw [upd_ne (fun z => n (by rw [← z]; exact List.mem_flatMap.mpr ⟨c, hc, hb⟩))]; exact e, h.out, h.nd⟩
  have stp : ∀ {G' H' : Hp} {M' : Mem} {xs : List V}, Stp G M H G' M' H' → Stp G M H G' M' (upd H' D (.lst xs)) := fun {G' H' M' xs} s =>
    ⟨s.gg, fun b o n e => by rw [upd_ne (hDH b o n e)]; exact s.hh b o n e, s.fr, s.ad⟩
  have n0 : D ∉ adr M1 := fun z => h1.there D z hD
  have g0 : G1 D = none := h1.sub.free hD
  refine ⟨fun i m H' => m = ds.length - i ∧ i ≤ ds.length ∧ Pv i H', ⟨_, rfl, Nat.zero_le _, [], [], M1, G1, h0, Nat.zero_le _, laid h1 g0 n0, stp s1, Same.refl _, upd_same, .nil, g0, n0⟩, ?_⟩
  rintro i m H' ⟨rfl, hle, acc, aV, M', G', hI, hal, h', s', g', hDl, hda, hg', hn'⟩
  obtain ⟨w1, w2, w3⟩ := w G' M' H' g' h' (hOk _ _ _ hI)
  -- D through a step
  have thru : ∀ {G2 H2 : Hp} {M2 : Mem}, Stp G' M' H' G2 M2 H2 → H2 D = some (.lst aV) ∧ DenL X.K G2 acc aV ∧ G2 D = none ∧ D ∉ adr M2 := fun {G2 H2 M2} s =>
    ⟨s.hh D _ hn' hDl, hda.up s.gg, s.fr D (by rw [hDl]; exact fun z => nomatch z) hn' hg', fun z => (s.ad D z).elim hn' fun q => by rw [hDl] at q; cases q⟩
  by_cases hlt : i < ds.length
  · refine .inr ⟨w1 i hlt, fun H2 => Pv (i + 1) H2, fun H2 q => ⟨ds.length - (i + 1), by omega, rfl, hlt, q⟩, fun x H2 y => ?_⟩
    obtain ⟨G2, s2, h2, dx⟩ := w3 i x H2 hlt y
    have hd' := List.getElem?_eq_getElem hlt
    have eW : DenE X.K (wipeT τ vs) G2 (wipe σ vs) := denE_wipe ((hE.up s'.gg).up s2.gg) vs
    intro sA HA CA clA fpA
    refine hb i _ acc M' hd' hI sA HA CA clA fpA (wipe σ vs) G2 H2 x eW h2 (dx _ hd') _ ?_
    intro τ3 M3 G3 H3 σ3 p3 s3 h3 e3 l3 k3
    refine ⟨?_, fun sB HB CB clB fpB => ?_⟩
    · rw [wipe_ext l3 k3, wipe_wipe]
    refine p3 sB HB CB clB fpB σ3 G3 H3 e3 h3 _ ?_
    intro bb M4 G4 H4 ⟨p4, p4'⟩ s4 h4
    have s24 := (s2.trans s3).trans s4
    cases bb with
    | false =>
      refine iteF ?_
      obtain ⟨t1, t2, t3, t4⟩ := thru s24
      exact ⟨acc, aV, M4, G4, p4' rfl, by omega, h4, s'.trans s24, g'.trans s24.gg, t1, t2, t3, t4⟩
    | true =>
      refine iteT fun sC HC CC clC fpC => ?_
      refine (p4 rfl sC HC CC clC fpC).run _ takes0 σ3 G4 H4 (e3.up s4.gg) h4 _ ?_ noX
      intro y5 M5 v5 G5 H5 p5 s5 h5 d5
      have s25 := s24.trans s5
      obtain ⟨t1, t2, t3, t4⟩ := thru s25
      refine ⟨aV, t1, by rw [hda.length]; omega, acc ++ [y5], aV ++ [v5], M5, G5, p5, by rw [List.length_append]; simp; omega, laid h5 t3 t4, stp (s'.trans s25), g'.trans s25.gg, upd_same, t2.snoc d5, t3, t4⟩
  · have e : i = ds.length := by omega
    subst e
    refine .inl ⟨w2, ?_⟩
    have up : Same G' (upd G' D (.lst aV)) := fun b o e => by rw [upd_ne (ne_of_none e hg')]; exact e
    have hF : Hst X.K (upd G' D (.lst aV)) M' H' := ⟨fun b o e => by
      by_cases c : b = D
      · subst c; rw [upd_same] at e; cases e; exact hDl
      · rw [upd_ne c] at e; exact h'.sub b o e, fun c hc => (h'.mem c hc).up up fun _ _ _ e => e, fun b hb => by rw [upd_ne (fun z => hn' (by rw [← z]; exact hb))]; exact h'.out b hb, h'.nd⟩
    have sF : Stp G M H (upd G' D (.lst aV)) M' H' := ⟨s'.gg.trans up, s'.hh, fun b hb n g => by
      rw [upd_ne (fun z => ?_)]
      · exact s'.fr b hb n g
      · cases q : H b with
        | none => exact hb q
        | some o => exact hDH b o n q z, s'.ad⟩
    exact hP _ _ _ _ _ (hd acc M' hI) sF hF (den_lst upd_same (hda.up up))
theorem ex_lc {scope : Scope} {ifs : List Expr} (own : List (Str × Nat)) (h : EI X tg iter τ M (fun ds M1 Ok => ds.length ≤ sizeLine ∧ ∃ I : Nat → List Dat → Mem → Prop, I 0 [] M1 ∧ (∀ i acc M, I i acc M → Ok M) ∧
      (∀ i d acc M, ds[i]? = some d → I i acc M → ∀ (s : Shared) (H : Hp) (C : Addr) (cl : List (Str × Addr)) (fp : List Addr), GC (Cx.Bk X scope s H C cl fp) (own.map (·.2)) tg d (wipeT τ (own.map (·.2))) M (fun τ2 M2 => ∀ (s : Shared) (H : Hp) (C : Addr) (cl : List (Str × Addr)) (fp : List Addr),
        EFs (Cx.Bk X scope s H C cl fp) ifs τ2 M2 (fun b M3 => (b = true → ∀ (s : Shared) (H : Hp) (C : Addr) (cl : List (Str × Addr)) (fp : List Addr), EX (Cx.Bk X scope s H C cl fp) false elt τ2 M3 (fun y M4 => I (i + 1) (acc ++ [y]) M4) E0') ∧ (b = false → I (i + 1) acc M3)))) ∧
      (∀ acc M, I ds.length acc M → P (.lst acc) M)) E)
    (ok : BlkOk X.N X.env.scope scope own := by exact blkOk_by (by first | decide +kernel | kernel_rfl)) (hN : X.N.Nodup := by first | decide +kernel | exact of_decide_eq_true (by kernel_rfl)) (hc : X.calm = true := by rfl) (hs : ∀ x, foldedSetIterable iter X.env x = pure x := by intro _; rfl) :
    EX X T (.ListComp elt [⟨tg, iter, ifs, 0⟩] scope pos) τ M P E := .mk fun W tk σ G H hE hH Q hP hX =>
  tW_of (pe_lc hc hN pi_W ok pg_fam pt_fam pe_fam hs) (lc_read h tk hE hH hP hX)
theorem ws_setLc {x : Str} {px : Pos} {scope : Scope} {ifs : List Expr} {lpos : Pos} {rest : List Stmt} {R : RK} (own : List (Str × Nat)) (h : EI X tg iter τ M (fun ds M1 Ok => ds.length ≤ sizeLine ∧ ∃ I : Nat → List Dat → Mem → Prop, I 0 [] M1 ∧ (∀ i acc M, I i acc M → Ok M) ∧
      (∀ i d acc M, ds[i]? = some d → I i acc M → ∀ (s : Shared) (H : Hp) (C : Addr) (cl : List (Str × Addr)) (fp : List Addr), GC (Cx.Bk X scope s H C cl fp) (own.map (·.2)) tg d (wipeT τ (own.map (·.2))) M (fun τ2 M2 => ∀ (s : Shared) (H : Hp) (C : Addr) (cl : List (Str × Addr)) (fp : List Addr),
        EFs (Cx.Bk X scope s H C cl fp) ifs τ2 M2 (fun b M3 => (b = true → ∀ (s : Shared) (H : Hp) (C : Addr) (cl : List (Str × Addr)) (fp : List Addr), EX (Cx.Bk X scope s H C cl fp) false elt τ2 M3 (fun y M4 => I (i + 1) (acc ++ [y]) M4) E0') ∧ (b = false → I (i + 1) acc M3)))) ∧
      (∀ acc M, I ds.length acc M → WS X T rest (τ.set (ixIn X.N x) (some (.lst acc))) M R)) (fun x M1 => R (.ex x τ) M1))
    (hi : X.N[ixIn X.N x]? = some x := by rfl) (hyl : X.env.scope.names.lookup x = some .local := by rfl) (hsw : swapsWith (.ListComp elt [⟨tg, iter, ifs, 0⟩] scope lpos) (some (.Name x px)) pos.line X.env = pure true := by exact sw_true rfl rfl rfl (by first | decide +kernel | kernel_rfl))
    (ok : BlkOk X.N X.env.scope scope own := by exact blkOk_by (by first | decide +kernel | kernel_rfl)) (hN : X.N.Nodup := by first | decide +kernel | exact of_decide_eq_true (by kernel_rfl)) (hc : X.calm = true := by rfl) (hs : ∀ x, foldedSetIterable iter X.env x = pure x := by intro _; rfl) :
    WS X T (.Assign [.Name x px] (.ListComp elt [⟨tg, iter, ifs, 0⟩] scope lpos) pos :: rest) τ M R := .mk fun W tk σ G H hE hH D hR => tWSs_len fun hl => by
  refine ws_step (ps_setLc hc hN hi hyl hsw pi_W ok pg_fam pt_fam pe_fam hs) ?_
  have hlt : ixIn X.N x < σ.length := by rw [hl]; exact (List.getElem?_eq_some_iff.mp hi).1
  exact lc_read (P := fun d M => ∃ acc, d = .lst acc ∧ WS X T rest (τ.set (ixIn X.N x) (some (.lst acc))) M R) (.mk fun W' tk' σ' G' H' hE' hH' R' hR' hX' => h.run W' tk' σ' G' H' hE' hH' R' (fun J ds M1 G1 H1 Ok ⟨hz, I, i1, i2, i3, i4⟩ => hR' J ds M1 G1 H1 Ok ⟨hz, I, i1, i2, i3, fun acc M hi => ⟨acc, rfl, i4 acc M hi⟩⟩) hX') tk hE hH
    (fun d M2 v G2 H2 ⟨acc, ed, r⟩ s h2 dv => by subst ed; exact r.run W tk _ G2 H2 ((hE.up s.gg).set hlt dv) h2 D (hR.step s)) (ex_out hR hE)
end
end Kh

set_option Elab.async false
set_option linter.all false
set_option maxRecDepth 100000
set_option maxHeartbeats 1000000
namespace Kh
open PySem PySem.Spec L2

section
variable {X : Cx} {T : Bool} {τ : TEnv} {M : Mem} {P : PK'} {E : XKx} {e a b c o : Expr} {es : List Expr} {pos apos : Pos} {R : RK} {rest : List Stmt}
theorem EX.t (h : EX X false e τ M P E) : EX X T e τ M P E := .mk fun W tk σ G H hE hH Q hP hX pins s _ I => h.run W tk σ G H hE hH Q hP hX pins s tk_f I
theorem ET.t {P : Bool → Mem → Prop} (h : ET X false e τ M P E) : ET X T e τ M P E := .mk fun W tk σ G H hE hH Q hP hX pins s _ I => h.run W tk σ G H hE hH Q hP hX pins s tk_f I
theorem WS.t {ss : List Stmt} (h : WS X false ss τ M R) : WS X T ss τ M R := .mk fun W tk σ G H hE hH D hR pins s _ I => h.run W tk σ G H hE hH D hR pins s tk_f I

/-! ### operators by values -/
theorem o_scal {f : Value → Value → Sem Value} {r : R2} {x y : Dat} (v u : V) (hv : ∀ G w, Den X.K G x w → w = v) (hu : ∀ G w, Den X.K G y w → w = u) (ho : OpR X f r) (h : ∀ G H, Hst X.K G M H → ∀ Q, CE' X.K G M H P Q → r v u H Q) : OP X T f x y M P :=
  op_of ho fun G H v' u' hH dx dy Q hP => by rw [hv _ _ dx, hu _ _ dy]; exact h G H hH Q hP
theorem o_eqS {x y : Dat} (v u : V) (hv : ∀ G w, Den X.K G x w → w = v) (hu : ∀ G w, Den X.K G y w → w = u) (hs : scal v u = true) (h : P (.bl (decide (v = u))) M) : OP X T (compareOp .Eq) x y M P := o_scal v u hv hu op_eq fun G H hH Q hP => ⟨hs, hP _ _ _ _ _ h Stp.refl hH den_bl⟩
theorem o_neS {x y : Dat} (v u : V) (hv : ∀ G w, Den X.K G x w → w = v) (hu : ∀ G w, Den X.K G y w → w = u) (hs : scal v u = true) (h : P (.bl (!decide (v = u))) M) : OP X T (compareOp .NotEq) x y M P := o_scal v u hv hu op_ne fun G H hH Q hP => ⟨hs, hP _ _ _ _ _ h Stp.refl hH den_bl⟩
theorem vint {a b : Int} : decide (V.int a = V.int b) = decide (a = b) := by by_cases h : a = b <;> simp [h]
theorem vstr {a b : Str} : decide (V.str a = V.str b) = decide (a = b) := by by_cases h : a = b <;> simp [h]
theorem vbl {a b : Bool} : decide (V.bl a = V.bl b) = decide (a = b) := by by_cases h : a = b <;> simp [h]
theorem o_eqI {i j : Int} (h : P (.bl (decide (i = j))) M) : OP X T (compareOp .Eq) (.int i) (.int j) M P := o_eqS (.int i) (.int j) (fun _ _ d => d.int_inv) (fun _ _ d => d.int_inv) rfl (by rw [vint]; exact h)
theorem o_neI {i j : Int} (h : P (.bl (!decide (i = j))) M) : OP X T (compareOp .NotEq) (.int i) (.int j) M P := o_neS (.int i) (.int j) (fun _ _ d => d.int_inv) (fun _ _ d => d.int_inv) rfl (by rw [vint]; exact h)
theorem o_eqT {i j : Str} (h : P (.bl (decide (i = j))) M) : OP X T (compareOp .Eq) (.str i) (.str j) M P := o_eqS (.str i) (.str j) (fun _ _ d => d.str_inv) (fun _ _ d => d.str_inv) rfl (by rw [vstr]; exact h)
theorem o_neT {i j : Str} (h : P (.bl (!decide (i = j))) M) : OP X T (compareOp .NotEq) (.str i) (.str j) M P := o_neS (.str i) (.str j) (fun _ _ d => d.str_inv) (fun _ _ d => d.str_inv) rfl (by rw [vstr]; exact h)
theorem o_eqB {i j : Bool} (h : P (.bl (decide (i = j))) M) : OP X T (compareOp .Eq) (.bl i) (.bl j) M P := o_eqS (.bl i) (.bl j) (fun _ _ d => d.bl_inv) (fun _ _ d => d.bl_inv) rfl (by rw [vbl]; exact h)
theorem o_neB {i j : Bool} (h : P (.bl (!decide (i = j))) M) : OP X T (compareOp .NotEq) (.bl i) (.bl j) M P := o_neS (.bl i) (.bl j) (fun _ _ d => d.bl_inv) (fun _ _ d => d.bl_inv) rfl (by rw [vbl]; exact h)
/-- is None -/
def Dat.isN : Dat → Bool
  | .non => true
  | _ => false
theorem den_isN {K : PySem.W.Frag} {G : Hp} {d : Dat} {v : V} (h : Den K G d v) (hr : ∀ u, d ≠ .raw u) : decide (v = .non) = d.isN := by
  cases d with
  | non => rw [h.non_inv]; rfl
  | bl b => rw [h.bl_inv]; rfl
  | int i => rw [h.int_inv]; rfl
  | str s => rw [h.str_inv]; rfl
  | raw u => exact absurd rfl (hr u)
  | dic0 => obtain ⟨p, rfl, _⟩ := h.dic0_inv; rfl
  | scr ns => obtain ⟨p, rfl, _⟩ := h.scr_inv; rfl
  | lst ds => obtain ⟨p, vs, rfl, _⟩ := h.lst_inv; rfl
  | tup ds => obtain ⟨p, vs, rfl, _⟩ := h.tup_inv; rfl
  | obj C ns ds => obtain ⟨p, dx, vs, rfl, _⟩ := h.obj_inv; rfl
  | xn a dd ns ds => obtain ⟨vs, rfl, _⟩ := h.xn_inv; rfl
  | «at» a d => obtain ⟨rfl, _⟩ := h.at_inv; rfl
theorem o_isN {x : Dat} (hr : ∀ u, x ≠ .raw u) (h : P (.bl x.isN) M) : OP X T (compareOp .Is) x .non M P := op_of op_isN fun G H v u hH dx dy Q hP => ⟨dy.non_inv, by rw [den_isN dx hr]; exact hP _ _ _ _ _ h Stp.refl hH den_bl⟩
theorem o_notN {x : Dat} (hr : ∀ u, x ≠ .raw u) (h : P (.bl (!x.isN)) M) : OP X T (compareOp .IsNot) x .non M P := op_of op_notN fun G H v u hH dx dy Q hP => ⟨dy.non_inv, by rw [den_isN dx hr]; exact hP _ _ _ _ _ h Stp.refl hH den_bl⟩
/-- ints -/
theorem o_mul {i j : Int} (hc : CMulW i j) (h : P (.int (i * j)) M) : OP X T (binaryOp .Mult) (.int i) (.int j) M P := op_IIc op_mulW hc (fun _ => den_int) h
theorem o_mulS {i j : Int} (hc : (-(2 ^ 64) < i ∧ i < 2 ^ 64) ∨ (-(2 ^ 64) < j ∧ j < 2 ^ 64)) (h : P (.int (i * j)) M) : OP X T (binaryOp .Mult) (.int i) (.int j) M P := op_IIc op_mul hc (fun _ => den_int) h
theorem o_mod {i j : Int} (hc : 0 < j) (h : P (.int (i % j)) M) : OP X T (binaryOp .Mod) (.int i) (.int j) M P := op_IIc op_mod hc (fun _ => den_int) h
theorem o_div {i j : Int} (hc : CDivW i j) (h : P (.int (i / j)) M) : OP X T (binaryOp .FloorDiv) (.int i) (.int j) M P := op_IIc op_fdivW hc (fun _ => den_int) h
theorem o_pow {i j : Int} (hc : CPow i j) (h : P (.int (i ^ j.toNat)) M) : OP X T (binaryOp .Pow) (.int i) (.int j) M P := op_IIc op_pow hc (fun _ => den_int) h
theorem o_shr {i j : Int} (hc : 0 ≤ j) (h : P (.int (i / 2 ^ j.toNat)) M) : OP X T (binaryOp .RShift) (.int i) (.int j) M P := op_IIc op_shr hc (fun _ => den_int) h
theorem o_shl {i j : Int} (hc : CPow i j) (h : P (.int (i * 2 ^ j.toNat)) M) : OP X T (binaryOp .LShift) (.int i) (.int j) M P := op_IIc op_shl hc (fun _ => den_int) h
theorem o_bor {i j : Int} (h : P (.int (Builtin.bitOr i j)) M) : OP X T (binaryOp .BitOr) (.int i) (.int j) M P := op_II op_or (fun _ => den_int) h
theorem o_band {i j : Int} (h : P (.int (Builtin.bitAnd i j)) M) : OP X T (binaryOp .BitAnd) (.int i) (.int j) M P := op_II op_and (fun _ => den_int) h
theorem ex_neg (h : EX X T a τ M (fun d M1 => ∃ i, d = .int i ∧ P (.int (-i)) M1) E) : EX X T (.UnaryOp .USub a pos) τ M P E := .mk fun W tk σ G H hE hH Q hP hX pins s k I =>
  UnaryOp_ (thn (h.run W tk σ G H hE hH (fun x H1 => ∃ i, x = .int i ∧ Q (.int (-i)) H1) (fun d M1 v G1 H1 ⟨i, ed, hp⟩ s1 h1 dv => by subst ed; exact ⟨i, dv.int_inv, hP _ _ _ _ _ hp s1 h1 den_int⟩) hX pins s k I) fun v s1 ⟨x, H1, I1, r1, q⟩ => un_neg pins s1 σ H1 x v Q I1 r1 q)
where UnaryOp_ := @PyProof.Rows.UnaryOp_
/-- texts -/
theorem o_cat {i j : Str} (hl : i.length + j.length ≤ sizeLine) (h : P (.str (i ++ j)) M) : OP X T (binaryOp .Add) (.str i) (.str j) M P := op_of op_add_str fun G H v u hH dx dy Q hP => ⟨i, j, dx.str_inv, dy.str_inv, hl, hP _ _ _ _ _ h Stp.refl hH den_str⟩
theorem o_inS {c : Nat} {z : Str} (h : P (.bl (decide (c ∈ z.cps.toList))) M) : OP X T (compareOp .In) (.str ⟨#[c]⟩) (.str z) M P := op_of op_in_sign fun G H v u hH dx dy Q hP => ⟨c, z, dx.str_inv, dy.str_inv, hP _ _ _ _ _ h Stp.refl hH den_bl⟩
theorem o_notInS {c : Nat} {z : Str} (h : P (.bl (!decide (c ∈ z.cps.toList))) M) : OP X T (compareOp .NotIn) (.str ⟨#[c]⟩) (.str z) M P := op_of op_notIn_sign fun G H v u hH dx dy Q hP => ⟨c, z, dx.str_inv, dy.str_inv, hP _ _ _ _ _ h Stp.refl hH den_bl⟩
theorem o_ltT {i j : Str} (h : P (.bl (decide (i.cps.toList < j.cps.toList))) M) : OP X T (compareOp .Lt) (.str i) (.str j) M P := op_of op_lt_str fun G H v u hH dx dy Q hP => ⟨i, j, dx.str_inv, dy.str_inv, hP _ _ _ _ _ h Stp.refl hH den_bl⟩
/-- a text so many times -/
def repS (z : Str) (n : Int) : Str := ⟨(List.replicate n.toNat z.cps.toList).flatten.toArray⟩
theorem rep_fold : ∀ (n : Nat) (l acc : Array Nat), ((List.replicate n l).foldl (· ++ ·) acc).toList = acc.toList ++ (List.replicate n l.toList).flatten
  | 0, l, acc => by simp
  | n + 1, l, acc => by
    rw [List.replicate_succ, List.foldl_cons, rep_fold n l (acc ++ l), List.replicate_succ, List.flatten_cons, Array.toList_append, List.append_assoc]
theorem str_ext {x y : Str} (h : x.cps.toList = y.cps.toList) : x = y := by
  obtain ⟨x⟩ := x; obtain ⟨y⟩ := y
  congr 1
  exact Array.toList_inj.mp h
theorem op_repS : OpR X (binaryOp .Mult) (fun x y H Q => ∃ z n, x = .str z ∧ y = .int n ∧ (-(2 ^ 63) ≤ n ∧ n < 2 ^ 63) ∧ z.length * n.toNat ≤ sizeLine ∧ Q (.str (repS z n)) H) := by
  intro pins s σ H x y v u Q I rx ry h
  obtain ⟨z, n, rfl, rfl, ⟨b1, b2⟩, hl, q⟩ := h
  obtain ⟨t, rfl⟩ := rx
  obtain ⟨t', rfl⟩ := ry
  have hz : z.cps.size = z.length := rfl
  have sl : sizeLine = 16777216 := sizeLine_eq
  refine PySem.P.mul_str ?_ (fun h1 h2 h3 => ?_) (fun h1 h2 => ?_) ?_
  · rw [decide_eq_false (by omega), decide_eq_false (by omega)]; rfl
  · have hn : (1 : Int) ≤ n := by omega
    have : (z.length : Int) * n ≤ 16777216 := by
      have : ((z.length * n.toNat : Nat) : Int) ≤ 16777216 := by omega
      rwa [Int.natCast_mul, Int.toNat_of_nonneg (by omega)] at this
    have h4 : (z.length : Int) ≤ (2 ^ 63 - 1) / n := by
      rw [Int.le_ediv_iff_mul_le (by omega)]; omega
    omega
  · exact decide_eq_false (by omega)
  · have fin : ∀ (t'' : Tok) (k : Nat) (w : Str), w = repS z n → EP X pins σ Q (.str w t'') { s with toks := k } := fun t'' k w e => ⟨.str (repS z n), H, I.tok k, ⟨t'', by rw [e]⟩, q⟩
    split
    · refine ⟨by simp [Str.empty, Str.length, sl], fin _ _ _ (str_ext ?_)⟩
      have : n.toNat = 0 := by omega
      simp [repS, this, Str.empty]
    · split
      · rename_i h1 h2
        refine fin _ _ _ (str_ext ?_)
        rcases Bool.or_eq_true _ _ ▸ h2 with h2 | h2
        · have : n = 1 := by simpa using h2
          subst this
          simp [repS]
        · have : z.cps.toList = [] := by
            have : z.length = 0 := by simpa using h2
            rw [← hz] at this
            exact List.length_eq_zero_iff.mp (by simpa using this)
          simp [repS, this]
      · refine ⟨?_, fin _ _ _ (str_ext ?_)⟩
        · have : (⟨(List.replicate n.toNat z.cps).foldl (· ++ ·) #[]⟩ : Str).length = z.length * n.toNat := by
            show ((List.replicate n.toNat z.cps).foldl (· ++ ·) #[]).size = _
            rw [← Array.length_toList, rep_fold]
            simp [Nat.mul_comm, hz]
          rw [this]; exact hl
        · rw [rep_fold]; simp [repS]
theorem o_repS {z : Str} {n : Int} (hb : -(2 ^ 63) ≤ n ∧ n < 2 ^ 63) (hl : z.length * n.toNat ≤ sizeLine) (h : P (.str (repS z n)) M) : OP X T (binaryOp .Mult) (.str z) (.int n) M P := op_of op_repS fun G H v u hH dx dy Q hP => ⟨z, n, dx.str_inv, dy.int_inv, hb, hl, hP _ _ _ _ _ h Stp.refl hH den_str⟩
/-- lists -/
theorem o_catL {xs ys : List Dat} (hl : xs.length + ys.length ≤ sizeLine) (h : P (.lst (xs ++ ys)) M) : OP X T (binaryOp .Add) (.lst xs) (.lst ys) M P := op_of op_cat fun G H v u hH dx dy Q hP => by
  obtain ⟨p, vs, rfl, g1, d1⟩ := dx.lst_inv
  obtain ⟨q, us, rfl, g2, d2⟩ := dy.lst_inv
  refine ⟨p, q, vs, us, rfl, rfl, hH.sub _ _ g1, hH.sub _ _ g2, by rw [d1.length, d2.length]; exact hl, fun r hr => ?_⟩
  obtain ⟨s2, h2⟩ := Stp.new (o := .lst (vs ++ us)) hH hr
  exact hP _ _ _ _ _ h s2 h2 (den_lst upd_same ((d1.append d2).up s2.gg))
theorem DenL.flat {K : PySem.W.Frag} {G : Hp} {ds : List Dat} {vs : List V} (h : DenL K G ds vs) : ∀ n : Nat, DenL K G (List.replicate n ds).flatten (List.replicate n vs).flatten
  | 0 => by simp only [List.replicate_zero, List.flatten_nil]; exact .nil
  | n + 1 => by simp only [List.replicate_succ, List.flatten_cons]; exact h.append (DenL.flat h n)
theorem o_repL {xs : List Dat} {n : Int} (hb : -(2 ^ 63) ≤ n ∧ n < 2 ^ 63) (hl : xs.length * n.toNat ≤ sizeLine) (h : P (.lst (List.replicate n.toNat xs).flatten) M) : OP X T (binaryOp .Mult) (.lst xs) (.int n) M P := op_of op_rep fun G H v u hH dx dy Q hP => by
  obtain ⟨p, vs, rfl, g1, d1⟩ := dx.lst_inv
  refine ⟨p, n, vs, rfl, dy.int_inv, hH.sub _ _ g1, hb.1, hb.2, by rw [d1.length]; exact hl, fun r hr => ?_⟩
  obtain ⟨s2, h2⟩ := Stp.new (o := .lst (List.replicate n.toNat vs).flatten) hH hr
  exact hP _ _ _ _ _ h s2 h2 (den_lst upd_same ((d1.flat _).up s2.gg))

/-! ### subscripts -/
def IQ (K : PySem.W.Frag) (x y : Dat) (M : Mem) (P : PK') : Prop := ∀ G H v u, Hst K G M H → Den K G x v → Den K G y u → ∀ Q, CE' K G M H P Q → rIx K v u H Q
theorem ex_ix (h : EX X T a τ M (fun x M1 => EX X T b τ M1 (fun y M2 => IQ X.K x y M2 P) E) E) (hs : PlainIx b := by exact fun _ _ => rfl) : EX X T (.Subscript a b pos) τ M P E := by
  refine .mk ?_; intro W tk σ G H hE hH Q hP hX pins s k I
  have hA := h.run W tk σ G H hE hH (fun x H1 => tW X T b σ H1 fun y H2 => rIx X.K x y H2 Q) (fun x M1 v G1 H1 hb s1 h1 dx => hb.run W tk σ G1 H1 (hE.up s1.gg) h1 _ (fun y M2 u G2 H2 ho s2 h2 dy => ho G2 H2 v u h2 (dx.up s2.gg) dy Q (hP.step (s1.trans s2))) (hX.step s1)) hX
  exact PyProof.Rows.Subscript_ (thnT k (hA pins s k I) fun v s1 k1 ⟨x, H1, I1, r1, q1⟩ => thn (q1 pins s1 k1 I1) fun u s2 ⟨y, H2, I2, r2, q2⟩ => ix_seq a b pins s2 σ H2 x y v u Q I2 r1 r2 q2 (hs _ _))
theorem atI_den {K : PySem.W.Frag} {G : Hp} {ds : List Dat} {vs : List V} {i : Int} {d : Dat} (h : DenL K G ds vs) (e : atI ds i = some d) : ∃ v, atI vs i = some v ∧ Den K G d v := by
  unfold atI at e ⊢
  rw [h.length]
  cases q : ixN ds.length i with
  | none => rw [q] at e; cases e
  | some j => rw [q] at e; exact h.get e
theorem i_lst {ds : List Dat} {i : Int} {d : Dat} (e : atI ds i = some d) (h : P d M) {K : PySem.W.Frag} : IQ K (.lst ds) (.int i) M P := fun G H v u hH dx dy Q hP => by
  obtain ⟨p, vs, rfl, g, dl⟩ := dx.lst_inv
  obtain ⟨w, e1, d1⟩ := atI_den dl e
  exact .inl ⟨p, vs, i, w, rfl, dy.int_inv, SqL.of (hH.sub _ _ g), e1, hP _ _ _ _ _ h Stp.refl hH d1⟩
theorem i_tup {ds : List Dat} {i : Int} {d : Dat} (e : atI ds i = some d) (h : P d M) {K : PySem.W.Frag} : IQ K (.tup ds) (.int i) M P := fun G H v u hH dx dy Q hP => by
  obtain ⟨p, vs, rfl, g, dl⟩ := dx.tup_inv
  obtain ⟨w, e1, d1⟩ := atI_den dl e
  exact .inr (.inl ⟨p, vs, i, w, rfl, dy.int_inv, SqT.of (hH.sub _ _ g), e1, hP _ _ _ _ _ h Stp.refl hH d1⟩)
theorem i_cell {p : Addr} {ds : List Dat} {i : Int} {d : Dat} (hm : (p, MC.lst ds) ∈ M) (e : atI ds i = some d) (h : P d M) {K : PySem.W.Frag} : IQ K (.raw (.ref p)) (.int i) M P := fun G H v u hH dx dy Q hP => by
  obtain ⟨vs, g, dl⟩ := hH.mem _ hm
  obtain ⟨w, e1, d1⟩ := atI_den dl e
  exact .inl ⟨p, vs, i, w, dx.raw_inv, dy.int_inv, SqL.of g, e1, hP _ _ _ _ _ h Stp.refl hH d1⟩
theorem i_scr {ns : List Int} {i n : Int} (e : atI ns i = some n) (h : P (.int n) M) {K : PySem.W.Frag} : IQ K (.scr ns) (.int i) M P := fun G H v u hH dx dy Q hP => by
  obtain ⟨p, rfl, g⟩ := dx.scr_inv
  refine .inl ⟨p, _, i, .int n, rfl, dy.int_inv, hH.sub.seq g, ?_, hP _ _ _ _ _ h Stp.refl hH den_int⟩
  unfold atI at e ⊢
  rw [List.length_map]
  cases q : ixN ns.length i with
  | none => rw [q] at e; cases e
  | some j =>
    rw [q] at e
    show (ns.map V.int)[j]? = _
    rw [List.getElem?_map, show ns[j]? = some n from e]; rfl
theorem i_str {z : Str} {i : Int} {c : Nat} (hl : z.length ≤ sizeLine) (e : atI z.cps.toList i = some c) (h : P (.str ⟨#[c]⟩) M) {K : PySem.W.Frag} : IQ K (.str z) (.int i) M P := fun G H v u hH dx dy Q hP =>
  .inr (.inr ⟨z, i, c, dx.str_inv, dy.int_inv, hl, e, hP _ _ _ _ _ h Stp.refl hH den_str⟩)
end
end Kh

set_option Elab.async false
set_option linter.all false
set_option maxRecDepth 100000
set_option maxHeartbeats 1000000
namespace Kh
open PySem PySem.Spec L2

section
variable {X : Cx} {T : Bool} {τ : TEnv} {M : Mem} {P : PK'} {E : XKx} {e a b c o : Expr} {es : List Expr} {pos apos p2 : Pos} {R : RK} {rest : List Stmt}
/-! ### slices -/
def tWO (X : Cx) (T : Bool) (e : Option Expr) : TO := fun σ H Q => ∀ pins s, Tk T s → Inv X pins σ H s → wpAny (model X.prog X.w) X.A (evalPart e X.env) (fun u s' => ∃ o H', Inv X pins σ H' s' ∧ IsPart u o ∧ Q o H') X.xe s
structure EP' (X : Cx) (T : Bool) (e : Option Expr) (τ : TEnv) (M : Mem) (P : Option Int → Mem → Prop) (E : XKx) : Prop where
  run : ∀ W, Takes X W → ∀ σ G H, DenE X.K τ G σ → Hst X.K G M H → ∀ Q : Option Int → Hp → Prop, (∀ i M2 G2 H2, P i M2 → Stp G M H G2 M2 H2 → Hst X.K G2 M2 H2 → Q i H2) → CX' X.K G M H E (fun c d H2 => W c d σ H2) → tWO X T e σ H Q
theorem ep_none {P : Option Int → Mem → Prop} (h : P none M) : EP' X T none τ M P E := .mk fun W tk σ G H hE hH Q hP hX pins s k I => po_none.run pins s σ H Q I (hP _ _ _ _ h Stp.refl hH)
theorem ep_some {P : Option Int → Mem → Prop} (h : EX X T e τ M (fun d M1 => ∃ i, d = .int i ∧ P (some i) M1) E) : EP' X T (some e) τ M P E := .mk fun W tk σ G H hE hH Q hP hX pins s k I => by
  rw [evalPart_some]
  refine thn (h.run W tk σ G H hE hH (fun x H1 => ∃ i, x = .int i ∧ Q (some i) H1) (fun d M1 v G1 H1 ⟨i, ed, hp⟩ s1 h1 dv => by subst ed; exact ⟨i, dv.int_inv, hP _ _ _ _ hp s1 h1⟩) hX pins s k I) fun u s1 ⟨x, H1, I1, r1, i, ex, q⟩ => ?_
  subst ex
  obtain ⟨t, rfl⟩ := r1
  exact ⟨some i, H1, I1, .int i t, q⟩
/-- a slice, by values -/
def SQ (X : Cx) (x : Dat) (lo hi : Option Int) (M : Mem) (P : PK') : Prop := ∃ r, SlR X r ∧ ∀ G H v, Hst X.K G M H → Den X.K G x v → ∀ Q, CE' X.K G M H P Q → r v lo hi H Q
theorem ex_sl {lo hi : Option Expr} (h : EX X T e τ M (fun x M1 => EP' X T lo τ M1 (fun l M2 => EP' X T hi τ M2 (fun u M3 => SQ X x l u M3 P) E) E) E) : EX X T (.Subscript e (.Slice lo hi none p2) pos) τ M P E := by
  refine .mk ?_; intro W tk σ G H hE hH Q hP hX pins s k I
  have hA := h.run W tk σ G H hE hH (fun x H1 => tWO X T lo σ H1 fun l H2 => tWO X T hi σ H2 fun u H3 => ∃ r, SlR X r ∧ r x l u H3 Q) (fun x M1 v G1 H1 hb s1 h1 dx =>
    hb.run W tk σ G1 H1 (hE.up s1.gg) h1 _ (fun l M2 G2 H2 hb2 s2 h2 => hb2.run W tk σ G2 H2 ((hE.up s1.gg).up s2.gg) h2 _ (fun u M3 G3 H3 ⟨r, hr, hq⟩ s3 h3 =>
      ⟨r, hr, hq G3 H3 v h3 ((dx.up s2.gg).up s3.gg) Q (hP.step ((s1.trans s2).trans s3))⟩) (hX.step (s1.trans s2))) (hX.step s1)) hX
  refine PyProof.Rows.Subscript_ (thnT k (hA pins s k I) fun v s1 k1 ⟨x, H1, I1, r1, q1⟩ => ?_)
  refine wpAny_Slice (thnT k1 (q1 pins s1 k1 I1) fun vl s2 k2 ⟨l, H2, I2, pl, q2⟩ => thn (q2 pins s2 k2 I2) fun vu s3 ⟨u, H3, I3, pu, r, hr, q3⟩ => ?_)
  rw [evalPart_none]
  refine wpAny_pure ?_
  have I4 : Inv X pins σ H3 { s3 with heap := s3.heap.push { cls := .type "slice", data := .fields #[vl, vu, .none] } } := I3.kept (t' := s3.toks) fun b ob q => Heap.get?_push_of_some _ q
  obtain ⟨T', id, hT, ht, hg⟩ := hr pins { s3 with heap := s3.heap.push { cls := .type "slice", data := .fields #[vl, vu, .none] } } σ H3 x v vl vu l u s3.heap.objs.size Q I4 r1 (Heap.IsSliceOf.new ..) pl pu q3
  show wpAny (model X.prog X.w) X.A (PyProof.Rows.subscriptTail e (.Slice lo hi none p2) v (.ref s3.heap.objs.size)) (EP X pins σ Q) X.xe { s3 with heap := s3.heap.push { cls := .type "slice", data := .fields #[vl, vu, .none] } }
  exact PyProof.Rows.tail_any (ops := [.ref s3.heap.objs.size, v]) ht hT hg (by with_unfolding_all rfl)
/-- the items between two places -/
def cutD {α : Type} (xs : List α) (lo hi : Option Int) : List α := (xs.drop (HT.sIx xs.length 0 lo)).take (HT.sIx xs.length xs.length hi - HT.sIx xs.length 0 lo)
theorem denL_cut {K : PySem.W.Frag} {G : Hp} {ds : List Dat} {vs : List V} {lo hi : Option Int} (h : DenL K G ds vs) : DenL K G (cutD ds lo hi) (cutV vs lo hi) := by
  unfold cutD cutV
  rw [h.length]
  exact (h.drop _).take _
theorem l_lst {ds : List Dat} {lo hi : Option Int} (h : P (.lst (cutD ds lo hi)) M) : SQ X (.lst ds) lo hi M P := ⟨_, sl_list, fun G H v hH dx Q hP => by
  obtain ⟨p, vs, rfl, g, dl⟩ := dx.lst_inv
  refine ⟨p, vs, rfl, SqL.of (hH.sub _ _ g), fun r hr => ?_⟩
  obtain ⟨s2, h2⟩ := Stp.new (o := .lst (cutV vs lo hi)) hH hr
  exact hP _ _ _ _ _ h s2 h2 (den_lst upd_same ((denL_cut dl).up s2.gg))⟩
theorem l_cell {p : Addr} {ds : List Dat} {lo hi : Option Int} (hm : (p, MC.lst ds) ∈ M) (h : P (.lst (cutD ds lo hi)) M) : SQ X (.raw (.ref p)) lo hi M P := ⟨_, sl_list, fun G H v hH dx Q hP => by
  obtain ⟨vs, g, dl⟩ := hH.mem _ hm
  refine ⟨p, vs, dx.raw_inv, SqL.of g, fun r hr => ?_⟩
  obtain ⟨s2, h2⟩ := Stp.new (o := .lst (cutV vs lo hi)) hH hr
  exact hP _ _ _ _ _ h s2 h2 (den_lst upd_same ((denL_cut dl).up s2.gg))⟩
theorem l_scr {ns : List Int} {lo hi : Option Int} (h : P (.lst ((cutD ns lo hi).map Dat.int)) M) : SQ X (.scr ns) lo hi M P := ⟨_, sl_list, fun G H v hH dx Q hP => by
  obtain ⟨p, rfl, g⟩ := dx.scr_inv
  refine ⟨p, _, rfl, hH.sub.seq g, fun r hr => ?_⟩
  obtain ⟨s2, h2⟩ := Stp.new (o := .lst (cutV (ns.map V.int) lo hi)) hH hr
  refine hP _ _ _ _ _ h s2 h2 (den_lst upd_same ?_)
  have e : cutV (ns.map V.int) lo hi = (cutD ns lo hi).map V.int := by unfold cutV cutD; rw [List.length_map, List.map_take, List.map_drop]
  rw [e]; exact denL_ints⟩
theorem l_str {z : Str} {lo hi : Option Int} (hl : z.length ≤ sizeLine) (h : P (.str (cutS z lo hi)) M) : SQ X (.str z) lo hi M P := ⟨_, sl_str, fun G H v hH dx Q hP => ⟨z, dx.str_inv, hl, hP _ _ _ _ _ h Stp.refl hH den_str⟩⟩
theorem l_tup {ds : List Dat} {lo hi : Option Int} (hw : ¬ (HT.sIx ds.length 0 lo = 0 ∧ HT.sIx ds.length ds.length hi = ds.length)) (h : P (.tup (cutD ds lo hi)) M) : SQ X (.tup ds) lo hi M P := ⟨_, sl_tup, fun G H v hH dx Q hP => by
  obtain ⟨p, vs, rfl, g, dl⟩ := dx.tup_inv
  refine ⟨p, vs, rfl, SqT.of (hH.sub _ _ g), by rw [dl.length]; exact hw, fun r hr => ?_⟩
  obtain ⟨s2, h2⟩ := Stp.new (o := .tup (cutV vs lo hi)) hH hr
  exact hP _ _ _ _ _ h s2 h2 (den_tup upd_same ((denL_cut dl).up s2.gg))⟩

/-! ### built-ins by values -/
theorem bc_of {f : Value} {r : List V → Hp → VK → Prop} {ds : List Dat} (hr : CallR X f r) (h : ∀ G H vs, Hst X.K G M H → DenL X.K G ds vs → ∀ Q, CE' X.K G M H P Q → r vs H Q) : BC X f ds M P := ⟨r, hr, h⟩
theorem one_inv {K : PySem.W.Frag} {G : Hp} {d : Dat} {vs : List V} (h : DenL K G [d] vs) : ∃ v, vs = [v] ∧ Den K G d v := by
  obtain ⟨v, r, rfl, d1, t⟩ := h.cons_inv
  rw [t.nil_inv]; exact ⟨v, rfl, d1⟩
theorem two_inv {K : PySem.W.Frag} {G : Hp} {d e : Dat} {vs : List V} (h : DenL K G [d, e] vs) : ∃ v u, vs = [v, u] ∧ Den K G d v ∧ Den K G e u := by
  obtain ⟨v, r, rfl, d1, t⟩ := h.cons_inv
  obtain ⟨u, rfl, d2⟩ := one_inv t
  exact ⟨v, u, rfl, d1, d2⟩
theorem c_len_lst {ds : List Dat} (h : P (.int ds.length) M) : BC X (.builtin "len") [.lst ds] M P := bc_of call_len_seq fun G H vs hH dv Q hP => by
  obtain ⟨v, rfl, d⟩ := one_inv dv
  obtain ⟨p, us, rfl, g, dl⟩ := d.lst_inv
  exact ⟨p, us, rfl, .inl (SqL.of (hH.sub _ _ g)), by rw [dl.length]; exact hP _ _ _ _ _ h Stp.refl hH den_int⟩
theorem c_len_tup {ds : List Dat} (h : P (.int ds.length) M) : BC X (.builtin "len") [.tup ds] M P := bc_of call_len_seq fun G H vs hH dv Q hP => by
  obtain ⟨v, rfl, d⟩ := one_inv dv
  obtain ⟨p, us, rfl, g, dl⟩ := d.tup_inv
  exact ⟨p, us, rfl, .inr (SqT.of (hH.sub _ _ g)), by rw [dl.length]; exact hP _ _ _ _ _ h Stp.refl hH den_int⟩
theorem c_len_cell {p : Addr} {ds : List Dat} (hm : (p, MC.lst ds) ∈ M) (h : P (.int ds.length) M) : BC X (.builtin "len") [.raw (.ref p)] M P := bc_of call_len_seq fun G H vs hH dv Q hP => by
  obtain ⟨v, rfl, d⟩ := one_inv dv
  obtain ⟨us, g, dl⟩ := hH.mem _ hm
  exact ⟨p, us, by rw [d.raw_inv], .inl (SqL.of g), by rw [dl.length]; exact hP _ _ _ _ _ h Stp.refl hH den_int⟩
theorem c_len_scr {ns : List Int} (h : P (.int ns.length) M) : BC X (.builtin "len") [.scr ns] M P := bc_of call_len_seq fun G H vs hH dv Q hP => by
  obtain ⟨v, rfl, d⟩ := one_inv dv
  obtain ⟨p, rfl, g⟩ := d.scr_inv
  exact ⟨p, _, rfl, .inl (hH.sub.seq g), by rw [List.length_map]; exact hP _ _ _ _ _ h Stp.refl hH den_int⟩
theorem c_len_str {z : Str} (hl : z.length ≤ sizeLine) (h : P (.int z.length) M) : BC X (.builtin "len") [.str z] M P := bc_of call_len_str fun G H vs hH dv Q hP => by
  obtain ⟨v, rfl, d⟩ := one_inv dv
  exact ⟨z, by rw [d.str_inv], hl, hP _ _ _ _ _ h Stp.refl hH den_int⟩
theorem c_int_i {i : Int} (h : P (.int i) M) : BC X (.type "int") [.int i] M P := bc_of call_int1 fun G H vs hH dv Q hP => by
  obtain ⟨v, rfl, d⟩ := one_inv dv
  exact .inl ⟨i, by rw [d.int_inv], hP _ _ _ _ _ h Stp.refl hH den_int⟩
theorem c_int_b {k : Bool} (h : P (.int (if k then 1 else 0)) M) : BC X (.type "int") [.bl k] M P := bc_of call_int1 fun G H vs hH dv Q hP => by
  obtain ⟨v, rfl, d⟩ := one_inv dv
  exact .inr ⟨k, by rw [d.bl_inv], hP _ _ _ _ _ h Stp.refl hH den_int⟩
theorem c_min {i j : Int} (hc : X.calm = true) (h : P (.int (if j < i then j else i)) M) : BC X (.builtin "min") [.int i, .int j] M P := bc_of (call_min2 hc) fun G H vs hH dv Q hP => by
  obtain ⟨v, u, rfl, d1, d2⟩ := two_inv dv
  exact ⟨i, j, by rw [d1.int_inv, d2.int_inv], hP _ _ _ _ _ h Stp.refl hH den_int⟩
theorem c_max {i j : Int} (hc : X.calm = true) (h : P (.int (if j > i then j else i)) M) : BC X (.builtin "max") [.int i, .int j] M P := bc_of (call_max2 hc) fun G H vs hH dv Q hP => by
  obtain ⟨v, u, rfl, d1, d2⟩ := two_inv dv
  exact ⟨i, j, by rw [d1.int_inv, d2.int_inv], hP _ _ _ _ _ h Stp.refl hH den_int⟩
theorem c_sum {ns : List Int} {ds : List Dat} (hc : X.calm = true) (e : ds = ns.map Dat.int) (h : P (.int ns.sum) M) : BC X (.builtin "sum") [.lst ds] M P := bc_of (cr_sum hc) fun G H vs hH dv Q hP => by
  subst e
  obtain ⟨v, rfl, d⟩ := one_inv dv
  obtain ⟨p, us, rfl, g, dl⟩ := d.lst_inv
  rw [dl.ints] at g
  exact ⟨p, ns, rfl, SqL.of (hH.sub _ _ g), hP _ _ _ _ _ h Stp.refl hH den_int⟩
theorem c_list_lst {ds : List Dat} (h : P (.lst ds) M) : BC X (.type "list") [.lst ds] M P := bc_of call_list_of fun G H vs hH dv Q hP => by
  obtain ⟨v, rfl, d⟩ := one_inv dv
  obtain ⟨p, us, rfl, g, dl⟩ := d.lst_inv
  refine ⟨p, us, rfl, .inl (SqL.of (hH.sub _ _ g)), fun r hr => ?_⟩
  obtain ⟨s2, h2⟩ := Stp.new (o := .lst us) hH hr
  exact hP _ _ _ _ _ h s2 h2 (den_lst upd_same (dl.up s2.gg))
theorem c_list_cell {p : Addr} {ds : List Dat} (hm : (p, MC.lst ds) ∈ M) (h : P (.lst ds) M) : BC X (.type "list") [.raw (.ref p)] M P := bc_of call_list_of fun G H vs hH dv Q hP => by
  obtain ⟨v, rfl, d⟩ := one_inv dv
  obtain ⟨us, g, dl⟩ := hH.mem _ hm
  refine ⟨p, us, by rw [d.raw_inv], .inl (SqL.of g), fun r hr => ?_⟩
  obtain ⟨s2, h2⟩ := Stp.new (o := .lst us) hH hr
  exact hP _ _ _ _ _ h s2 h2 (den_lst upd_same (dl.up s2.gg))
theorem c_list_tup {ds : List Dat} (h : P (.lst ds) M) : BC X (.type "list") [.tup ds] M P := bc_of call_list_of fun G H vs hH dv Q hP => by
  obtain ⟨v, rfl, d⟩ := one_inv dv
  obtain ⟨p, us, rfl, g, dl⟩ := d.tup_inv
  refine ⟨p, us, rfl, .inr (SqT.of (hH.sub _ _ g)), fun r hr => ?_⟩
  obtain ⟨s2, h2⟩ := Stp.new (o := .lst us) hH hr
  exact hP _ _ _ _ _ h s2 h2 (den_lst upd_same (dl.up s2.gg))
theorem c_tuple_lst {ds : List Dat} (h : P (.tup ds) M) : BC X (.type "tuple") [.lst ds] M P := bc_of call_tuple_of fun G H vs hH dv Q hP => by
  obtain ⟨v, rfl, d⟩ := one_inv dv
  obtain ⟨p, us, rfl, g, dl⟩ := d.lst_inv
  refine ⟨p, us, rfl, .inl ⟨SqL.of (hH.sub _ _ g), fun r hr => ?_⟩⟩
  obtain ⟨s2, h2⟩ := Stp.new (o := .tup us) hH hr
  exact hP _ _ _ _ _ h s2 h2 (den_tup upd_same (dl.up s2.gg))
/-! isinstance -/
structure ICls (K : PySem.W.Frag) (C : Addr) : Prop where
  cl : Cls K C
  ha : PySem.W.findIn K (.ref C) "__class__" = some (some (.builtin "object.__class__"))
  hn : PySem.W.specialIn K (.builtin "object.__class__") "__get__" = some (some (.builtin "getset_descriptor.__get__"))
  tk : PySem.W.takesIn K (.builtin "object.__class__") = some true
  mr : PySem.W.mroIn K C (.type "object") = some true
/-- the type of a datum -/
inductive TyD (K : PySem.W.Frag) (M : Mem) : Dat → Value → Prop
  | non : TyD K M .non (.type "NoneType")
  | bl {k : Bool} : TyD K M (.bl k) (.type "bool")
  | int {i : Int} : TyD K M (.int i) (.type "int")
  | str {s : Str} : TyD K M (.str s) (.type "str")
  | lst {ds : List Dat} : TyD K M (.lst ds) (.type "list")
  | tup {ds : List Dat} : TyD K M (.tup ds) (.type "tuple")
  | dic0 : TyD K M .dic0 (.type "dict")
  | «at» {a : Addr} {d : Dat} {t : Value} (h : TyD K M d t) : TyD K M (.at a d) t
  | obj {C : Addr} {ns : List Str} {ds : List Dat} (h : ICls K C) : TyD K M (.obj C ns ds) (.ref C)
  | cellL {p : Addr} {ds : List Dat} (h : (p, MC.lst ds) ∈ M) : TyD K M (.raw (.ref p)) (.type "list")
  | cellI {p C dx : Addr} {fs : List (Str × Dat)} (h : (p, MC.ins C dx fs) ∈ M) (hc : ICls K C) : TyD K M (.raw (.ref p)) (.ref C)
theorem tyD_ok {K : PySem.W.Frag} {G H : Hp} {d : Dat} {t : Value} {v : V} (h : TyD K M d t) (hH : Hst K G M H) (dv : Den K G d v) : TyX K H v t := by
  induction h generalizing v with
  | «at» h ih => exact ih dv.at_inv.2
  | non => rw [dv.non_inv]; exact .base .non
  | bl => rw [dv.bl_inv]; exact .base (.bl _)
  | int => rw [dv.int_inv]; exact .base (.int _)
  | str => rw [dv.str_inv]; exact .base (.str _)
  | lst => obtain ⟨p, vs, rfl, g, _⟩ := dv.lst_inv; exact .base (.lst (hH.sub _ _ g))
  | tup => obtain ⟨p, vs, rfl, g, _⟩ := dv.tup_inv; exact .base (.tup (hH.sub _ _ g))
  | dic0 => obtain ⟨p, rfl, g⟩ := dv.dic0_inv; exact .base (.dK (hH.sub _ _ g))
  | obj h => obtain ⟨p, dx, vs, rfl, g, _⟩ := dv.obj_inv; exact .base (.ins (hH.sub _ _ g) h.cl h.ha h.hn h.tk h.mr)
  | cellL h => obtain ⟨vs, g, _⟩ := hH.mem _ h; rw [dv.raw_inv]; exact .base (.lst g)
  | cellI h hc => obtain ⟨vs, g, _⟩ := hH.mem _ h; rw [dv.raw_inv]; exact .base (.ins g hc.cl hc.ha hc.hn hc.tk hc.mr)
theorem c_isi {d : Dat} {cv : V} {t u : Value} {k : Bool} (hc : ClsV cv u) (ht : TyD X.K M d t) (hk : PySem.W.kitOne X.K t u = some k) (h : P (.bl k) M) : BC X (.builtin "isinstance") [d, .raw cv] M P := bc_of call_isi fun G H vs hH dv Q hP => by
  obtain ⟨v, w, rfl, d1, d2⟩ := two_inv dv
  rw [d2.raw_inv]
  exact ⟨v, cv, t, u, k, rfl, hc, tyD_ok ht hH d1, hk, hP _ _ _ _ _ h Stp.refl hH den_bl⟩

/-! ### data compared -/
mutual
def toPy : Dat → Option PyData
  | .non => some .none
  | .bl b => some (.bool b)
  | .int i => some (.int i)
  | .str s => some (.str s)
  | .lst xs => (toPyL xs).map PyData.list
  | .tup xs => (toPyL xs).map PyData.tuple
  | _ => none
def toPyL : List Dat → Option (List PyData)
  | [] => some []
  | d :: ds => (toPy d).bind fun x => (toPyL ds).map fun xs => x :: xs
end
mutual
theorem toPy_dp {K : PySem.W.Frag} {G H : Hp} (hs : Same G H) : ∀ (d : Dat) (v : V) (x : PyData), Den K G d v → toPy d = some x → Dp K H v x
  | .non, v, x, h, e => by rw [h.non_inv]; simp only [toPy, Option.some.injEq] at e; subst e; exact .non
  | .bl b, v, x, h, e => by rw [h.bl_inv]; simp only [toPy, Option.some.injEq] at e; subst e; exact .bl b
  | .int i, v, x, h, e => by rw [h.int_inv]; simp only [toPy, Option.some.injEq] at e; subst e; exact .int i
  | .str s, v, x, h, e => by rw [h.str_inv]; simp only [toPy, Option.some.injEq] at e; subst e; exact .str s
  | .lst ds, v, x, h, e => by
    obtain ⟨p, vs, rfl, g, dl⟩ := h.lst_inv
    simp only [toPy, Option.map_eq_some_iff] at e
    obtain ⟨xs, e1, rfl⟩ := e
    exact .lst (SqL.of (hs _ _ g)) (toPyL_dp hs ds vs xs dl e1)
  | .tup ds, v, x, h, e => by
    obtain ⟨p, vs, rfl, g, dl⟩ := h.tup_inv
    simp only [toPy, Option.map_eq_some_iff] at e
    obtain ⟨xs, e1, rfl⟩ := e
    exact .tup (SqT.of (hs _ _ g)) (toPyL_dp hs ds vs xs dl e1)
  | .raw _, _, _, _, e => by simp [toPy] at e
  | .dic0, _, _, _, e => by simp [toPy] at e
  | .scr _, _, _, _, e => by simp [toPy] at e
  | .obj _ _ _, _, _, _, e => by simp [toPy] at e
theorem toPyL_dp {K : PySem.W.Frag} {G H : Hp} (hs : Same G H) : ∀ (ds : List Dat) (vs : List V) (xs : List PyData), DenL K G ds vs → toPyL ds = some xs → DpAll K H vs xs
  | [], vs, xs, h, e => by rw [h.nil_inv]; simp only [toPyL, Option.some.injEq] at e; subst e; exact .nil
  | d :: ds, vs, xs, h, e => by
    obtain ⟨v, r, rfl, d1, t⟩ := h.cons_inv
    simp only [toPyL, Option.bind_eq_some_iff, Option.map_eq_some_iff] at e
    obtain ⟨x, e1, ys, e2, rfl⟩ := e
    exact .cons (toPy_dp hs d v x d1 e1) (toPyL_dp hs ds r ys t e2)
end
theorem o_eqD {x y : Dat} {d f : PyData} (hx : toPy x = some d) (hy : toPy y = some f) (sd : SeqAt.shaped d = true) (sf : SeqAt.shaped f = true) (hu : X.A.units + 64 < cLine) (h : P (.bl (PyData.eqv d f)) M) : OP X T (compareOp .Eq) x y M P :=
  op_of (op_eqD hu) fun G H v u hH dx dy Q hP => ⟨d, f, toPy_dp hH.sub x v d dx hx, toPy_dp hH.sub y u f dy hy, sd, sf, hP _ _ _ _ _ h Stp.refl hH den_bl⟩
theorem o_neD {x y : Dat} {d f : PyData} (hx : toPy x = some d) (hy : toPy y = some f) (sd : SeqAt.shaped d = true) (sf : SeqAt.shaped f = true) (hu : X.A.units + 64 < cLine) (h : P (.bl (!PyData.eqv d f)) M) : OP X T (compareOp .NotEq) x y M P :=
  op_of (op_neD hu) fun G H v u hH dx dy Q hP => ⟨d, f, toPy_dp hH.sub x v d dx hx, toPy_dp hH.sub y u f dy hy, sd, sf, hP _ _ _ _ _ h Stp.refl hH den_bl⟩
end
end Kh

set_option Elab.async false
set_option linter.all false
set_option maxRecDepth 100000
set_option maxHeartbeats 1000000
namespace Kh
open PySem PySem.Spec L2
section
variable {X : Cx} {T : Bool} {τ : TEnv} {M : Mem} {P : PK'} {E : XKx} {e a b c o value : Expr} {es : List Expr} {pos pos' apos tpos : Pos} {R : RK} {rest : List Stmt} {x : Str}
/-! ### cells written -/
theorem adr_split {A B : Mem} {c c' : Addr × MC} (h : adr1 c = adr1 c') : adr (A ++ c :: B) = adr (A ++ c' :: B) := by
  rw [adr_append, adr_append]
  show adr A ++ (adr1 c ++ adr B) = adr A ++ (adr1 c' ++ adr B)
  rw [h]
/-- the cell at p gets another content of the same addresses: H2 differs from H at p alone -/
theorem cell_put {K : PySem.W.Frag} {G H H2 : Hp} {A B : Mem} {p : Addr} {c c' : MC} (h : Hst K G (A ++ (p, c) :: B) H) (hc : adr1 (p, c) = adr1 (p, c')) (hp : p ∈ adr1 (p, c)) (hk : ∀ q, q ≠ p → H2 q = H q) (hn : MH K G H2 (p, c')) :
    Stp G (A ++ (p, c) :: B) H G (A ++ (p, c') :: B) H2 ∧ Hst K G (A ++ (p, c') :: B) H2 := by
  have ea : adr (A ++ (p, c) :: B) = adr (A ++ (p, c') :: B) := adr_split hc
  have hpm : p ∈ adr (A ++ (p, c) :: B) := by rw [adr_append]; exact List.mem_append_right _ (List.mem_append_left _ hp)
  have nd := h.nd
  rw [adr_append] at nd
  obtain ⟨_, nb, nab⟩ := List.nodup_append.mp nd
  have nb' : (adr1 (p, c) ++ adr B).Nodup := nb
  obtain ⟨_, _, ncb⟩ := List.nodup_append.mp nb'
  have other : ∀ d ∈ A ++ B, ∀ q ∈ adr1 d, q ≠ p := fun d hd q hq e => by
    rcases List.mem_append.mp hd with z | z
    · exact nab q (List.mem_flatMap.mpr ⟨d, z, hq⟩) p (List.mem_append_left _ hp) e
    · exact ncb p hp q (List.mem_flatMap.mpr ⟨d, z, hq⟩) e.symm
  refine ⟨⟨Same.refl _, fun q o n e => by rw [hk q (fun z => n (by rw [z]; exact hpm))]; exact e, fun _ _ _ g => g, fun q hq => .inl (by rw [ea]; exact hq)⟩, fun q o e => ?_, fun d hd => ?_, fun q hq => h.out q (by rw [ea]; exact hq), by rw [← ea]; exact h.nd⟩
  · have : q ≠ p := fun z => by rw [z, h.out p hpm] at e; cases e
    rw [hk q this]; exact h.sub q o e
  · rcases List.mem_append.mp hd with z | z
    · exact (h.mem d (List.mem_append_left _ z)).up (Same.refl _) fun q hq o e => by rw [hk q (other d (List.mem_append_left _ z) q hq)]; exact e
    · rcases List.mem_cons.mp z with rfl | z
      · exact hn
      · exact (h.mem d (List.mem_append_right _ (List.mem_cons_of_mem _ z))).up (Same.refl _) fun q hq o e => by rw [hk q (other d (List.mem_append_right _ z) q hq)]; exact e
/-- M with the cell of p put anew -/
def putC (p : Addr) (c' : MC) : Mem → Mem
  | [] => []
  | (q, c) :: M => if q = p then (p, c') :: M else (q, c) :: putC p c' M
theorem putC_split {p : Addr} {c c' : MC} : ∀ {M : Mem}, (p, c) ∈ M → ∃ A B, M = A ++ (p, (M.lookup p).getD c) :: B ∧ putC p c' M = A ++ (p, c') :: B
  | (q, d) :: M, h => by
    by_cases e : q = p
    · subst e
      exact ⟨[], M, by simp [List.lookup], by simp [putC]⟩
    · have hm : (p, c) ∈ M := by
        rcases List.mem_cons.mp h with z | z
        · cases z; exact absurd rfl e
        · exact z
      obtain ⟨A, B, h1, h2⟩ := putC_split (c' := c') hm
      have el : (List.lookup p ((q, d) :: M)) = List.lookup p M := by
        rw [List.lookup_cons, show (p == q) = false from by simpa using fun z => e z.symm]
      refine ⟨(q, d) :: A, B, ?_, ?_⟩
      · rw [el, List.cons_append, ← h1]
      · show (if q = p then _ else (q, d) :: putC p c' M) = _
        rw [if_neg e, h2]; rfl
theorem nodup_cell {K : PySem.W.Frag} {G H : Hp} {p : Addr} {c : MC} (h : Hst K G M H) (hm : (p, c) ∈ M) : M.lookup p = some c := by
  have nd := h.nd
  clear h
  induction M with
  | nil => cases hm
  | cons q M ih =>
    obtain ⟨q, d⟩ := q
    have hq : q ∈ adr1 (q, d) := by cases d <;> simp [adr1]
    have nd' : (adr1 (q, d) ++ adr M).Nodup := nd
    obtain ⟨_, n2, n3⟩ := List.nodup_append.mp nd'
    rw [List.lookup_cons]
    rcases List.mem_cons.mp hm with z | z
    · cases z; simp
    · have hp : p ∈ adr M := List.mem_flatMap.mpr ⟨_, z, by cases c <;> simp [adr1]⟩
      have : (p == q) = false := by
        cases e : p == q with
        | false => rfl
        | true =>
          have e' : p = q := by simpa using e
          exact absurd e'.symm (fun z => n3 q hq p hp z)
      rw [this]
      exact ih z n2
theorem put_ok {K : PySem.W.Frag} {G H H2 : Hp} {p : Addr} {c c' : MC} (h : Hst K G M H) (hm : (p, c) ∈ M) (hc : adr1 (p, c) = adr1 (p, c')) (hk : ∀ q, q ≠ p → H2 q = H q) (hn : MH K G H2 (p, c')) :
    Stp G M H G (putC p c' M) H2 ∧ Hst K G (putC p c' M) H2 := by
  obtain ⟨A, B, h1, h2⟩ := putC_split (c' := c') hm
  rw [nodup_cell h hm] at h1
  have h1 : M = A ++ (p, c) :: B := h1
  rw [h2]
  rw [h1] at h ⊢
  exact cell_put h hc (by cases c <;> simp [adr1]) hk hn

/-! ### methods of built-in types -/
inductive TyB (K : PySem.W.Frag) (M : Mem) : Dat → String → Prop
  | str {s : Str} : TyB K M (.str s) "str"
  | int {i : Int} : TyB K M (.int i) "int"
  | lst {ds : List Dat} : TyB K M (.lst ds) "list"
  | scr {ns : List Int} : TyB K M (.scr ns) "list"
  | cell {p : Addr} {ds : List Dat} (h : (p, MC.lst ds) ∈ M) : TyB K M (.raw (.ref p)) "list"
  | dcell {p : Addr} {kvs : List (Key × Dat)} (h : (p, MC.dic kvs) ∈ M) : TyB K M (.raw (.ref p)) "dict"
theorem tyB_ok {K : PySem.W.Frag} {G H : Hp} {d : Dat} {t : String} {v : V} (h : TyB K M d t) (hH : Hst K G M H) (dv : Den K G d v) : tyV K t v H := by
  cases h with
  | str => rw [dv.str_inv]; rfl
  | int => rw [dv.int_inv]; rfl
  | lst => obtain ⟨p, vs, rfl, g, _⟩ := dv.lst_inv; exact .inl ⟨rfl, vs, SqL.of (hH.sub _ _ g)⟩
  | scr => obtain ⟨p, rfl, g⟩ := dv.scr_inv; exact .inl ⟨rfl, _, hH.sub.seq g⟩
  | cell h => obtain ⟨vs, g, _⟩ := hH.mem _ h; rw [dv.raw_inv]; exact .inl ⟨rfl, vs, SqL.of g⟩
  | dcell h => obtain ⟨vs, g, _⟩ := hH.mem _ h; rw [dv.raw_inv]; exact .inr (.inr (.inl ⟨rfl, .inl ⟨vs, g⟩⟩))
/-- a built-in method of d, called with ds -/
def BMr (X : Cx) (id : String) (d : Dat) (ds : List Dat) (M : Mem) (P : PK') : Prop :=
  ∃ r, MtR X id r ∧ ∀ G H v vs, Hst X.K G M H → Den X.K G d v → DenL X.K G ds vs → ∀ Q, CE' X.K G M H P Q → r v vs H Q
theorem ex_bm {name : Str} {t id : String} (pa : PlainAttrs t) (slot : Slot t name id) (hty : typeOf (.builtin id) = pure (.type "method_descriptor"))
    (h : EX X T o τ M (fun d M1 => TyB X.K M1 d t ∧ EA X T (e :: es) τ M1 (fun ds M2 => BMr X id d ds M2 P) E) E)
    (hbase : attributeBase o name X.env (eval o X.env) = eval o X.env := by rfl)
    (hfew : ((backTo tpos (starEach (e :: es) X.env)).all (fun x => !x.1) && (backToKw tpos (keywordEach [] X.env)).all (fun x => x.1.isSome) && decide ((e :: es).length + ([] : List Keyword).length + (if ([] : List Keyword).isEmpty then 0 else 1) < 30)) = true := by rfl)
    (hline : (apos.endLine == tpos.line) = true := by rfl) (hs : starEach (e :: es) X.env = (false, eval e X.env) :: starEach es X.env := by rfl) (hplain : (backTo tpos (starEach es X.env)).any (·.1) = false := by rfl) :
    EX X T (.Call (.Attribute o name apos) (e :: es) [] tpos) τ M P E := by
  refine .mk ?_; intro W tk σ G H hE hH Q hP hX pins s k I
  have hA := h.run W tk σ G H hE hH (fun v H1 => tyV X.K t v H1 ∧ tWA X T (e :: es) σ H1 fun vs H2 => ∃ r, MtR X id r ∧ r v vs H2 Q) (fun d M1 v G1 H1 ⟨ht, hb⟩ s1 h1 dv =>
    ⟨tyB_ok ht h1 dv, hb.run W tk σ G1 H1 (hE.up s1.gg) h1 _ (fun ds M2 vs G2 H2 ⟨r, hr, hq⟩ s2 h2 dvs => ⟨r, hr, hq G2 H2 v vs h2 (dv.up s2.gg) dvs Q (hP.step (s1.trans s2))⟩) (hX.step s1)⟩) hX
  refine wpAny_Call_method_late hbase hfew hline rfl (thnT k (hA pins s k I) fun v s1 k1 ⟨x, H1, I1, r1, ty, q1⟩ => ?_)
  obtain ⟨h1, h2⟩ := tyV_is I1 r1 ty
  refine ⟨t, id, pa, slot, hty, h1, h2, ?_⟩
  have hA := q1 tpos pins s1 k1 I1
  rw [hs] at hA ⊢
  refine Calls.callWith_builtin (by show (false || (backTo tpos (starEach es X.env)).any (·.1)) = false; rw [hplain] <;> rfl) (Calls.evalArgs_plain ?_)
  exact thn hA fun us s2 ⟨vs, H2, I2, r2, r, hr, q2⟩ => hr pins s2 σ H2 x vs v us Q I2 r1 r2 q2
theorem ex_bm0 {name : Str} {t id : String} (pa : PlainAttrs t) (slot : Slot t name id) (hty : typeOf (.builtin id) = pure (.type "method_descriptor"))
    (h : EX X T o τ M (fun d M1 => TyB X.K M1 d t ∧ BMr X id d [] M1 P) E)
    (hbase : attributeBase o name X.env (eval o X.env) = eval o X.env := by rfl) (hline : (apos.endLine == tpos.line) = true := by rfl) :
    EX X T (.Call (.Attribute o name apos) [] [] tpos) τ M P E := by
  refine .mk ?_; intro W tk σ G H hE hH Q hP hX pins s k I
  have hA := h.run W tk σ G H hE hH (fun v H1 => tyV X.K t v H1 ∧ ∃ r, MtR X id r ∧ r v [] H1 Q) (fun d M1 v G1 H1 ⟨ht, r, hr, hq⟩ s1 h1 dv =>
    ⟨tyB_ok ht h1 dv, r, hr, hq G1 H1 v [] h1 dv .nil Q (hP.step s1)⟩) hX
  refine wpAny_Call_method0_late hbase hline (thnT k (hA pins s k I) fun v s1 k1 ⟨x, H1, I1, r1, ty, r, hr, q1⟩ => ?_)
  obtain ⟨h1, h2⟩ := tyV_is I1 r1 ty
  exact ⟨t, id, pa, slot, hty, h1, h2, Calls.callWith_builtin rfl (PySem.evalArgs_none (hr pins s1 σ H1 x [] v [] Q I1 r1 .nil q1))⟩
/-- xs.append(y), xs a cell -/
theorem b_append {q : Addr} {ds : List Dat} {y : Dat} (hm : (q, MC.lst ds) ∈ M) (hl : ds.length < sizeLine) (h : P .non (putC q (.lst (ds ++ [y])) M)) : BMr X "list.append" (.raw (.ref q)) [y] M P := by
  refine ⟨rAppend, mt_append, fun G H v vs hH dv dvs Q hP => ?_⟩
  obtain ⟨u, r, rfl, du, t⟩ := dvs.cons_inv
  obtain rfl := t.nil_inv
  obtain ⟨xs, g, dx⟩ := hH.mem _ hm
  rw [dv.raw_inv]
  obtain ⟨s2, h2⟩ := put_ok (c' := .lst (ds ++ [y])) (H2 := upd H q (.lst (xs ++ [u]))) hH hm rfl (fun b hb => upd_ne hb) ⟨_, upd_same, dx.snoc du⟩
  exact ⟨q, xs, u, rfl, rfl, g, by rw [dx.length]; exact hl, hP _ _ _ _ _ h s2 h2 den_non⟩
theorem ex_append (h : EX X T o τ M (fun d M1 => TyB X.K M1 d "list" ∧ EA X T (e :: es) τ M1 (fun ds M2 => BMr X "list.append" d ds M2 P) E) E)
    (hbase : attributeBase o "append" X.env (eval o X.env) = eval o X.env := by rfl)
    (hfew : ((backTo tpos (starEach (e :: es) X.env)).all (fun x => !x.1) && (backToKw tpos (keywordEach [] X.env)).all (fun x => x.1.isSome) && decide ((e :: es).length + ([] : List Keyword).length + (if ([] : List Keyword).isEmpty then 0 else 1) < 30)) = true := by rfl)
    (hline : (apos.endLine == tpos.line) = true := by rfl) (hs : starEach (e :: es) X.env = (false, eval e X.env) :: starEach es X.env := by rfl) (hplain : (backTo tpos (starEach es X.env)).any (·.1) = false := by rfl) :
    EX X T (.Call (.Attribute o "append" apos) (e :: es) [] tpos) τ M P E := ex_bm PySem.F.plainAttrs_list PySem.F.slot_list_append PySem.F.type_list_append h hbase hfew hline hs hplain
/-! ### o[i] = v -/
theorem ixN_len {xs ys : List α} (h : xs.length = ys.length) : ixN xs.length = ixN ys.length := by rw [h]
theorem gx_sub {i : Expr} {d : Dat} {P : TEnv → Mem → Prop} (h : EX X false o τ M (fun od M1 => EX X false i τ M1 (fun id M2 => ∃ q ds k j, od = .raw (.ref q) ∧ id = .int k ∧ (q, MC.lst ds) ∈ M2 ∧ ixN ds.length k = some j ∧ P τ (putC q (.lst (ds.set j d)) M2)) E) E)
    (ha : ∀ v, assign (.Subscript o i pos) X.env v = (do
      let ov ← holding [v] (eval o X.env)
      let iv ← holding [v, ov] (eval i X.env)
      standAt pos
      holding [v, ov, iv] (setItem ov iv v)
      release [v, ov, iv] []) := by intro _; rfl) : GX X T (.Subscript o i pos) d τ M P E := .mk fun W tk σ G H v hE hH dv Q hP hX => by
  refine tWG_of (pg_sub (pe_W (e := o)) (pe_W (e := i)) set_list ha) ?_
  refine h.run W tk σ G H hE hH _ ?_ hX
  intro od M1 ov G1 H1 hi s1 h1 dov
  refine hi.run W tk σ G1 H1 (hE.up s1.gg) h1 _ ?_ (hX.step s1)
  rintro id M2 iv G2 H2 ⟨q, ds, k, j, rfl, rfl, hm, hj, hp⟩ s2 h2 div
  obtain ⟨xs, g, dx⟩ := h2.mem _ hm
  obtain ⟨s3, h3⟩ := put_ok (c' := .lst (ds.set j d)) (H2 := upd H2 q (.lst (xs.set j v))) h2 hm rfl (fun b hb => upd_ne hb) ⟨_, upd_same, dx.set (dv.up (s1.trans s2).gg) j⟩
  exact ⟨q, xs, k, j, (dov.up s2.gg).raw_inv, div.int_inv, g, by rw [dx.length]; exact hj, hP _ _ _ _ _ hp ((s1.trans s2).trans s3) h3 ((hE.up (s1.trans s2).gg).up s3.gg)⟩
/-! ### a new list that may change -/
theorem ex_lstC (h : EA X T es τ M (fun ds M1 => ds.length ≤ sizeLine ∧ ∀ q, q ∉ adr M1 → P (.raw (.ref q)) ((q, .lst ds) :: M1)) E) : EX X T (.List es pos) τ M P E := by
  refine .mk ?_; intro W tk σ G H hE hH Q hP hX
  refine v_lst ?_
  refine h.run W tk σ G H hE hH _ ?_ hX
  intro ds M1 vs G1 H1 ⟨hl, hp⟩ s1 h1 dvs
  refine ⟨by rw [dvs.length]; exact hl, fun p hp' => ?_⟩
  have nM : p ∉ adr M1 := fun z => h1.there p z hp'
  have ha : adr ((p, MC.lst ds) :: M1) = p :: adr M1 := rfl
  have kp : ∀ b o, H1 b = some o → (upd H1 p (.lst vs)) b = some o := fun b o e => by rw [upd_ne (ne_of_none e hp')]; exact e
  refine hP _ _ _ _ _ (hp p nM) (s1.trans ⟨Same.refl _, fun b o _ e => kp b o e, fun _ _ _ g => g, fun b hb => ?_⟩) ⟨fun b o e => kp b o (h1.sub b o e), fun c hc => ?_, fun b hb => ?_, ?_⟩ den_raw
  · rw [ha] at hb
    rcases List.mem_cons.mp hb with rfl | hb
    · exact .inr hp'
    · exact .inl hb
  · rcases List.mem_cons.mp hc with rfl | hc
    · exact ⟨vs, upd_same, dvs⟩
    · exact (h1.mem c hc).up (Same.refl _) fun b hb o e => kp b o e
  · rw [ha] at hb
    rcases List.mem_cons.mp hb with rfl | hb
    · exact h1.sub.free hp'
    · exact h1.out b hb
  · rw [ha]
    exact List.nodup_cons.mpr ⟨nM, h1.nd⟩
end
end Kh

set_option Elab.async false
set_option linter.all false
set_option maxRecDepth 100000
set_option maxHeartbeats 4000000
namespace Kh
open PySem PySem.Spec L2
open PySem.W PySem.Calls PyProof.Rows PySem.HandSPX

/-! ### an own exception class whose __init__ says super().__init__(v); self.f = v -/
abbrev supBody (ns f : Str) (p0 p1 p2 p3 p4 p5 p6 p7 p8 p9 : Pos) : List Stmt :=
  [.Expr (.Call (.Attribute (.Call (.Name "super" p0) [] [] p1) "__init__" p2) [.Name ns p3] [] p4) p5, .Assign [.Attribute (.Name "self" p6) f p7] (.Name ns p8) p9]
structure SupX (P : Program) (K : Frag) (C fI : Addr) (ns f : Str) : Prop where
  T : OexC K C
  iC : findIn K (.ref C) "__init__" = some (some (.ref fI))
  tI : typeIn K (.ref fI) = some (.type "function")
  nf : findIn K (.ref C) f = some none
  al : ks_superIn K C C "__init__" = some (some (.builtin "ValueError.__init__"))
  sV : subIn K (.ref C) (.type "ValueError") = some true
  sC : mroIn K C (.ref C) = some true
  op : nsIn K cStatics "thirdparty.any" = some none
  tp : (P.main.scope.names.lookup ("super" : Str)).isSome = false
  fn : ∃ (oc : Value) (od : Option Addr) (osl : Array (Option Value)) (name qual : Str) (params : Arguments) (scope : Scope) (dV kV doc pm : Value) (an : Option Addr) (cda : Addr) (ct : Value) (cc : Addr) (p0 p1 p2 p3 p4 p5 p6 p7 p8 p9 : Pos) (ar : Arg)
      (ccl : Value) (cdd : Option Addr) (vs : Array Value) (ccs : Array (Option Value)) (file : Str) (tf : Tok) (cl : Value) (cld : Option Addr) (csl : Array (Option Value)),
    K.lookup fI = some ⟨oc, od, .func (ksFn name qual params (supBody ns f p0 p1 p2 p3 p4 p5 p6 p7 p8 p9) scope dV kV doc pm an (.ref cda) ct cc), osl⟩ ∧ codeIn K (.ref cda) qual = true ∧
    (params.posonlyargs ++ params.args).head? = some ar ∧ ar.arg = "self" ∧ scope.kind = .function ∧ scope.isGenerator = false ∧ scope.isCoroutine = false ∧ (∀ x ∈ scope.names, x.2 ≠ .cell) ∧
    scope.names.lookup ("super" : Str) = some .globalImplicit ∧ scope.names.lookup ("__class__" : Str) = some .free ∧ scope.names.lookup ("self" : Str) = some .local ∧ scope.names.lookup ns = some .local ∧
    K.lookup cda = some ⟨ccl, cdd, .fields vs, ccs⟩ ∧ vs[2]? = some (.str file tf) ∧ ((P.main.file : Str) == file) = true ∧ K.lookup cc = some ⟨cl, cld, .cell (some (.ref C)), csl⟩ ∧
    Binds K (ksFn name qual params (supBody ns f p0 p1 p2 p3 p4 p5 p6 p7 p8 p9) scope dV kV doc pm an (.ref cda) ct cc) ["self", ns] [] ∧
    (∀ env : Env, ∃ pl : Sem Bool, eval (.Call (.Attribute (.Call (.Name "super" p0) [] [] p1) "__init__" p2) [.Name ns p3] [] p4) env = (do
      let ov ← attributeBase (.Call (.Name "super" p0) [] [] p1) "__init__" env (eval (.Call (.Name "super" p0) [] [] p1) env)
      standAt p2.atName
      let (f, first) ← holding [ov] (getMethod ov "__init__" pl)
      callWith p4 f first (backTo p4 (starEach [.Name ns p3] env)) []))
  ne : (ns == ("self" : Str)) = false
  nd : (ns == ("__debug__" : Str)) = false

section
variable {prog : Program} {w : World} {A : Around} {E : Value → Shared → Prop} {h : Heap} {g : Array GenState} {d : Drawn} {t : Nat} {os : OsState}
variable {nm q : Str} {C N : Addr} {bs bm : List Value} {hdct : Bool} {sn : List Str} {sub : List Value} {ab : Bool} {col : Option Bool} {dd : Option Addr} {k0 k1 k2 k3 k5 : Option Value}
theorem call_mw {u e t0 : Addr} {rest : List Value} {Q : Value → Shared → Prop}
    (hC : h.get? C = some (excClassObj nm q C N bs bm hdct sn sub ab col dd k0 k1 k2 k3 k5 "ValueError.__new__")) (he : h.get? e = some (HandSPX.excO C t0)) (hu : h.get? u = some (kxs_mw "ValueError.__init__" e)) (hrest : rest.length ≤ sizeLine)
    (hq : ∀ h' t1, (∀ b o, b ≠ e → h.get? b = some o → h'.get? b = some o) → h'.get? e = some (HandSPX.excO C t1) → Q .none ⟨h', g, d, t, os⟩) :
    wpAny (model prog w) A (call (.ref u) rest) Q E ⟨h, g, d, t, os⟩ := by
  refine wpAny_call (codeAny_of_tree ?_)
  show wpAny _ A.in1 (callAny (.ref u) ⟨rest, []⟩) _ _ _
  simp only [callAny]
  refine wpAny_bind (wpAny_load hu ?_)
  simp only [kxs_mw, show (Value.type "method-wrapper" == Value.type "method" || Value.type "method-wrapper" == Value.type "builtin_function_or_method" || Value.type "method-wrapper" == Value.type "method-wrapper") = true by decide, if_true]
  refine W.KFB.if_so (by decide) ?_
  refine wpAny_bind (check_bound_init F.excBase_ValueError.toExcCallFacts hC he rfl ?_)
  refine wpAny_bind (wpAny_pure (wpAny_pure ?_))
  refine ⟨Code.quiet_builtin _ (by decide +kernel), codeAny_builtin F.excBase_ValueError.initEntry ?_⟩
  rw [Around.under_plainId F.excBase_ValueError.init.plain _]
  wp_walk
  refine hq _ h.objs.size (fun b o hb ho => ?_) ?_
  · rw [Heap.get?_update_other _ _ (Ne.symm hb)]
    exact Heap.get?_push_of_some _ ho
  · rw [Heap.get?_update_self _ (Heap.get?_push_of_some _ he) rfl]
    rfl
end
/-- what __init__ leaves of a fresh exception at x -/
structure InitEnd (h h' : Heap) (x C dx t1 : Addr) (f : Str) (v : Value) : Prop where
  keep : ∀ b o, b ≠ x → h.get? b = some o → h'.get? b = some o
  obj : h'.get? x = some { cls := .ref C, dict := some dx, data := .fields #[.ref t1, .none, .none, .none, .bool false, .none] }
  dbig : h.objs.size ≤ dx
  dne : dx ≠ x
  ns : h'.Ns1 dx (fun y => if y = f then some v else none)
structure OwnMade (h h' : Heap) (e C d : Addr) (f : Str) (v : Value) : Prop where
  keep : ∀ b o, h.get? b = some o → h'.get? b = some o
  new : h.objs.size ≤ e
  obj : ∃ oe vs, h'.get? e = some oe ∧ oe.cls = .ref C ∧ oe.dict = some d ∧ oe.data = .fields vs ∧ vs[1]? = some .none
  dbig : h.objs.size ≤ d
  dne : d ≠ e
  ns : h'.Ns1 d (fun y => if y = f then some v else none)
section
variable {prog : Program} {w : World} {A : Around} {E : Value → Shared → Prop} {R : Result → Shared → Prop} {s : Shared} {K : Frag} {mg mb : Str → Option Value} {C fI : Addr} {ns f : Str}
theorem sup_init (T : SupX prog K C fI ns f) {x t0 : Addr} {v : Value} (X : K.In s.heap) (hlim : s.heap.NoLimit) (hx : s.heap.get? x = some (excO C t0)) (hnx : K.lookup x = none) (hroom : A.depth < recursionLimit)
    (hg : s.heap.Ns mainGlobals mg) (hm : mg "super" = none) (hb : s.heap.Ns builtinsNs mb) (hbs : mb "super" = bootBuiltins "super")
    (hq : ∀ h' tk dx t1, InitEnd s.heap h' x C dx t1 f v → R (.ok (.ret .none)) { s with heap := h', toks := tk }) :
    codeAny (model prog w) A (.call (.ref fI) ⟨[.ref x, v], []⟩) R s := by
  obtain ⟨oc, od, osl, name, qual, params, scope, dV, kV, doc, pm, an, cda, ct, cc, p0, p1, p2, p3, p4, p5, p6, p7, p8, p9, ar, ccl, cdd, vs, ccs, file, tf, cl, cld, csl, ho, hcd, hp, har, hk, hgen, hco, hcell, ks, kc, kse, kn, hcode, hvs, hfile, hcc, hbn, hev⟩ := T.fn
  obtain ⟨nm, q, N, bs, bm, sn, sub, ab, col, dd, k0, k1, k2, k3, k5, hC, hbm⟩ := T.T.cls
  have hcl : clsIn K C = some { name := nm, bases := bs, mro := .ref C :: bm, ns := N, qualname := q, hasDict := true, slotNames := sn, subclasses := sub, abstract := ab, collection := col, hasDel := false } := by unfold clsIn; rw [hC] <;> rfl
  refine ks_codeAny_call_defAt (fd := ksFn name qual params (supBody ns f p0 p1 p2 p3 p4 p5 p6 p7 p8 p9) scope dV kV doc pm an (.ref cda) ct cc) (binds := [("self", .ref x), (ns, v)]) hroom (X _ _ ho) rfl hlim (codeRec_of X hcd) rfl
    (hbn s [.ref x, v] X rfl) hcell (fun y hy => ?_) (fun h₁ hns k => ?_) hco hgen hk
  · rcases List.mem_cons.mp hy with rfl | hy
    · exact kse
    · rcases List.mem_cons.mp hy with rfl | hy
      · exact kn
      · cases hy
  have X₁ : K.In h₁ := X.keeps k
  have hx₁ := k _ _ hx
  have e1 : List.lookup ns ([(("self" : Str), Value.ref x), (ns, v)].reverse) = some v := by simp [List.lookup]
  have e2 : List.lookup ("self" : Str) ([(("self" : Str), Value.ref x), (ns, v)].reverse) = some (.ref x) := by
    have n2 : (("self" : Str) == ns) = false := by
      have := T.ne
      cases z : (("self" : Str) == ns) with
      | false => rfl
      | true =>
        have z2 : ("self" : Str) = ns := by simpa using z
        rw [← z2] at this
        simp at this
    show List.lookup ("self" : Str) [(ns, v), (("self" : Str), Value.ref x)] = _
    rw [List.lookup_cons, n2]
    simp [List.lookup]
  obtain ⟨hh, gs, dr, tk, os⟩ := s
  have I₁ : InstAt h₁ x (excO C t0) C none := ⟨hx₁, rfl, rfl, trivial⟩
  have hCd : clsIn K C = some _ := hcl
  have hxC : x ≠ C := fun z => by rw [z, hC] at hnx; cases hnx
  obtain ⟨pl, hev⟩ := hev (ksEnv qual scope hh.objs.size fI (.ref cda) cc)
  refine ks_wpAt_execs_cons (ks_wpAt_Expr_any (ks_wpAt_MethodCall ?_ hev) (by show (scope.kind == .module && _) = false; rw [hk]; rfl) (by rfl))
  refine ks_wpAt_super_base (env := ksEnv qual scope hh.objs.size fI (.ref cda) cc) ks kc (by decide) rfl (X₁ _ _ ho) rfl hp rfl (X₁ _ _ hcode) rfl hvs hfile T.tp ?_
  refine ks_loadName_global hk ks (loadGlobal_builtin (env := ksEnv qual scope hh.objs.size fI (.ref cda) cc) (hg.keeps k) hm (hb.keeps k) (hbs.trans Boot.«super») ⟨rfl, ?_⟩)
  refine wpAny_loadName_free hk kc rfl ⟨_, X₁ _ _ hcc, rfl⟩ ?_
  rw [har]
  refine wpAny_loadName_local hk kse hns e2 ?_
  refine ks_wpAny_isType_cls (X₁ _ _ hC) rfl ⟨rfl, ?_⟩
  refine ks_wpAny_call_super (X₁ _ _ hC) rfl hx₁ rfl (fun c e => by cases e) (looks_mroIn X₁ T.sC) (fun h₂ hso k₂ => ?_)
  have X₂ : K.In h₂ := X₁.keeps k₂
  have hx₂ := k₂ _ _ hx₁
  have I₂ : InstAt h₂ x (excO C t0) C none := ⟨hx₂, rfl, rfl, trivial⟩
  have al := T.al
  unfold ks_superIn at al
  rw [hcl] at al
  refine kxs_getMethod kxs_ValueError hso (looks_opaque X₂ T.op) (l₀ := .ref C :: bm) ?_ rfl X₂ al (I₂.type.andThen (looks_subIn X₂ T.sV)) hxC (by decide) ?_
  · exact fun A Q E s k q => wpAny_bind ((looks_clsIn X₂ hcl) A _ E s k (wpAny_pure q))
  refine kxs_callWith (i := "ValueError.__init__") (x := x) (by rfl) (Calls.evalArgs_plain (Calls.spliced_cons ?_))
  have k₃ : ∀ b o, h₂.get? b = some o → (h₂.push (kxs_mw "ValueError.__init__" x)).get? b = some o := fun b o e => Heap.get?_push_of_some _ e
  have hns₃ := (hns.keeps k₂).keeps k₃
  refine wpAny_Name (wpAny_loadName_local hk kn hns₃ e1 (Calls.spliced_nil ⟨Heap.get?_push_at rfl rfl, ?_⟩)) T.nd
  refine call_mw ((X₂.keeps k₃) _ _ hC) (k₃ _ _ hx₂) (Heap.get?_push_at rfl rfl) (by show 1 ≤ sizeLine; decide) (fun h₄ t1 k₄ hx₄ => ?_)
  have kk : ∀ b o, b ≠ x → h₁.get? b = some o → h₄.get? b = some o := fun b o nb e => k₄ b o nb (k₃ _ _ (k₂ _ _ e))
  have neL : hh.objs.size ≠ x := fun z => absurd (Heap.lt_size hx) (by rw [z]; exact Nat.lt_irrefl _)
  have hns₄ : h₄.Ns hh.objs.size (fun y => List.lookup y ([(("self" : Str), Value.ref x), (ns, v)].reverse)) := by
    obtain ⟨o, es, ep, a1, r⟩ := hns
    exact ⟨o, es, ep, kk _ _ neL a1, r⟩
  have X₄ : K.In h₄ := fun b o e => kk b o (fun z => by rw [z, hnx] at e; cases e) (X₁ _ _ e)
  refine ks_wpAt_execs_cons (ks_wpAt_Assign_Attr ?_ (by rfl))
  refine wpAt_of_wpAny (wpAny_Name (wpAny_loadName_local hk kn hns₄ e1 ?_) T.nd)
  refine wpAny_Name (wpAny_loadName_local hk kse hns₄ e2 ?_) (by decide)
  refine set_plain X₄ (ox := excO C t1) (od := none) ⟨hx₄, rfl, rfl, trivial⟩ T.T.sa ?_
  refine exc_osa X₄ hx₄ hcl (show refsVE (.ref C :: bm) = true from hbm) rfl T.nf (fun h₅ tk₅ dx k₅ dn dne hx₅ hn₅ => ?_)
  have z : hh.objs.size ≤ h₄.objs.size := by
    obtain ⟨o, es, ep, a1, r⟩ := hns₄
    exact Nat.le_of_lt (Heap.lt_size a1)
  refine wpAt_of_wpAny (wpAny_execs_nil (hq h₅ tk₅ dx t1 ⟨fun b o nb e => k₅ b o nb (kk b o nb (k b o e)), hx₅, Nat.le_trans z dn, dne, hn₅⟩))
theorem sup_made (T : SupX prog K C fI ns f) {v : Value} (X : K.In s.heap) (hlim : s.heap.NoLimit) (hroom : A.depth + 1 < recursionLimit)
    (hg : s.heap.Ns mainGlobals mg) (hm : mg "super" = none) (hb : s.heap.Ns builtinsNs mb) (hbs : mb "super" = bootBuiltins "super")
    (hq : ∀ h' tk e d, OwnMade s.heap h' e C d f v → R (.ok (.ret (.ref e))) { s with heap := h', toks := tk }) :
    codeAny (model prog w) A (.call (.ref C) ⟨[v], []⟩) R s := by
  obtain ⟨nm, q, N, bs, bm, sn, sub, ab, col, dd, k0, k1, k2, k3, k5, hC, hbm⟩ := T.T.cls
  obtain ⟨hp, gs, dr, tk, os⟩ := s
  have k : ∀ b o, hp.get? b = some o → ((hp.push (kdv_tup [v])).push (excO C hp.objs.size)).get? b = some o := fun b o e => Heap.get?_push_of_some _ (Heap.get?_push_of_some _ e)
  have hget : ((hp.push (kdv_tup [v])).push (excO C hp.objs.size)).get? (hp.objs.size + 1) = some (excO C hp.objs.size) := by heap_get
  have hnx : K.lookup (hp.objs.size + 1) = none := by
    cases e : K.lookup (hp.objs.size + 1) with
    | none => rfl
    | some o =>
      have z : hp.get? (hp.objs.size + 1) = some o := X _ _ e
      exact absurd (Nat.lt_of_succ_lt (Heap.lt_size z)) (Nat.lt_irrefl _)
  refine call_own F.excBase_ValueError (fun X => refsVE_contains X bm hbm) (X _ _ hC) (looks_findIn X T.iC) (fun self => bind_fn X self T.tI) (by show 1 ≤ sizeLine; decide) ?_
  refine sup_init (s := ⟨(hp.push (kdv_tup [v])).push (excO C hp.objs.size), gs, dr, tk, os⟩) T (X.keeps k) (hlim.keeps k) hget hnx ?_ (hg.keeps k) hm (hb.keeps k) hbs fun h' tk' dx t1 ⟨k', hx, dn, dne, hns⟩ => ?_
  · show A.depth + 1 < recursionLimit
    exact hroom
  · have old : ∀ b o, hp.get? b = some o → h'.get? b = some o := fun b o e => k' b o (Nat.ne_of_lt (Nat.lt_succ_of_lt (Heap.lt_size e))) (k b o e)
    have z : hp.objs.size + 1 + 1 ≤ dx := by
      first
        | (simpa only [Heap.size_push] using dn)
        | exact dn
        | (have q := dn; rw [Heap.size_push, Heap.size_push] at q; exact q)
    exact ⟨rfl, hq h' tk' (hp.objs.size + 1) dx ⟨old, Nat.le_succ _, ⟨_, _, hx, rfl, rfl, rfl, rfl⟩, Nat.le_trans (Nat.le_trans (Nat.le_succ _) (Nat.le_succ _)) z, dne, hns⟩⟩
end
end Kh
namespace Kh
open PySem PySem.Spec L2
theorem relO_one {f : Str} {v : V} {v' : Value} (r : RelV v v') (g : Str) : RelO (List.lookup g [(f, v)]) (if g = f then some v' else none) := by
  by_cases hw : g = f
  · subst hw
    rw [if_pos rfl]
    have q : List.lookup g [(g, v)] = some v := by simp [List.lookup]
    rw [q]
    exact r
  · rw [if_neg hw]
    have qw : (g == f) = false := by simpa using hw
    have q2 : List.lookup g [(f, v)] = none := by simp [List.lookup, qw]
    rw [q2]
    trivial
section
variable {X : Cx} {C fI : Addr} {ns f : Str}
/-- C(e) -/
def tMkS (C : Addr) (f : Str) (ta : TA) : L2.St → Hp → XK → Prop := fun σ H Q => ta σ H fun vs H1 => ∃ v, vs = [v] ∧ ∀ d, H1 d = none → Q (.ref C) (some d) (upd H1 d (.xd [(f, v)]))
theorem pmk_sup {a : Expr} {ta : TA} {x : Str} {p pos : Pos} {k : Nat} (T : SupX X.prog X.K C fI ns f) (gC : X.mg x = some (.ref C)) (hms : X.mg "super" = none) (hr : Room k X.A) (ha : PA X [a] ta) (hg : Gl X x) (hdb : (x == ("__debug__" : Str)) = false := by decide)
    (he : starEach (a :: []) X.env = (false, eval a X.env) :: starEach [] X.env := by rfl) (hpl : (backTo pos (starEach [] X.env)).any (·.1) = false := by rfl) :
    PMk X (.Call (.Name x p) [a] [] pos) (tMkS C f ta) := by
  intro pins s σ H Q I h
  refine wpAny_Call_Name_kw (ld_glob I hg gC ?_ hdb)
  refine PySem.W.callWith_K (h₀ := X.base) I.ok.mod.kin T.T.kC (thn (ha.run pos pins s σ H _ I h) fun us s1 hh => ?_) he hpl
  obtain ⟨vs, H1, I1, r1, v, ev, q1⟩ := hh
  subst ev
  refine ⟨I1.kIn, ?_⟩
  cases r1 with
  | cons rv rn =>
    rename_i v' us'
    cases rn
    show wpAny _ _ (call (.ref C) [v']) _ _ _
    have hlim := I1.nolimit
    have hgl := I1.mod.glob.keeps I1.bk
    obtain ⟨mb, hb1, hb2⟩ := I1.mod.blt
    have hbl := hb1.keeps I1.bk
    obtain ⟨hp, g, dr, tk, os⟩ := s1
    refine wpAny_call (sup_made T I1.kIn hlim (by have := hr.dp; omega) hgl hms hbl (hb2 _ (by decide)) fun h' tk' e d M => ?_)
    show MkP X pins σ Q (.ref e) ⟨h', g, dr, tk', os⟩
    obtain ⟨oe, fv, hoe, hc, hd, hdat, h1⟩ := M.obj
    have hns := M.ns
    obtain ⟨G', g1, g2⟩ := restrict h' fun b => decide (b ≠ e)
    have gk : ∀ b, b ≠ e → G'.get? b = h'.get? b := fun b hb => g1 b (decide_eq_true hb)
    have ge : G'.get? e = none := g2 e (by simp)
    have old : ∀ b o, hp.get? b = some o → G'.get? b = some o := fun b o q => (gk b (Nat.ne_of_lt (Nat.lt_of_lt_of_le (Heap.lt_size q) M.new))).trans (M.keep b o q)
    have ob : ObjOk X.prog X.w (upd H1 d (.xd [(f, v)])) G' d (.xd [(f, v)]) :=
      ⟨_, hns.at (fun o q => (gk d M.dne).trans q), fun g => relO_one rv g⟩
    have J : Inv X pins σ (upd H1 d (.xd [(f, v)])) ⟨G', g, dr, tk', os⟩ := I1.laid (t' := tk') old M.dbig ob
    refine ⟨e, oe, fv, ⟨G', g, dr, tk', os⟩, _, .ref C, some d, rfl, J, fun b o q => ?_, ge, hoe, ⟨hc, hd⟩, hdat, h1, ?_, rfl, I1.bare, raises_own T.T.exC T.T.tyC, q1 d (I1.hok.fresh M.dbig)⟩
    · by_cases hb : b = e
      · have q' : G'.get? b = some o := q
        rw [hb, ge] at q'; cases q'
      · exact (gk b hb).symm.trans q
    · rw [upd_ne (Ne.symm M.dne)]
      exact I1.hok.fresh M.new
end
section
variable {X : Cx} {T : Bool} {τ : TEnv} {M : Mem} {P : PK'} {E : XKx} {e a b c : Expr} {es : List Expr} {pos p pos2 : Pos} {R : RK} {rest : List Stmt} {x n f ns : Str} {C fI : Addr} {k : Nat}
/-- raise C(e) -/
theorem ws_raise (hc : X.calm = true) (S : SupX X.prog X.K C fI ns f) (gC : X.mg x = some (.ref C)) (hms : X.mg "super" = none) (hr : Room k X.A)
    (h : EX X false e τ M (fun d M1 => R (.ex ⟨C, [f], [d]⟩ τ) M1) (fun y M1 => R (.ex y τ) M1)) (hg : Gl X x := by rfl) (hdb : (x == ("__debug__" : Str)) = false := by decide)
    (he : starEach (e :: []) X.env = (false, eval e X.env) :: starEach [] X.env := by rfl) (hpl : (backTo pos (starEach [] X.env)).any (·.1) = false := by rfl) :
    WS X T (.Raise (some (.Call (.Name x p) [e] [] pos)) none pos2 :: rest) τ M R := .mk fun W tk σ G H hE hH D hR => by
  refine ws_step (ps_raise hc tk (pmk_sup (ta := tWA X false [e]) S gC hms hr pa_W hg hdb he hpl)) ?_
  refine wa_cons (Q := fun vs H1 => ∃ v, vs = [v] ∧ ∀ d, H1 d = none → W (.ref C) (some d) σ (upd H1 d (.xd [(f, v)]))) he ?_
  refine h.run W tk σ G H hE hH _ ?_ (ex_out hR hE)
  intro d M1 v G1 H1 hp s1 h1 dv
  refine tWA_of pa_nil ?_
  refine ⟨v, rfl, fun dd hd => ?_⟩
  obtain ⟨s2, h2⟩ := Stp.new (o := .xd [(f, v)]) h1 hd
  exact hR _ _ _ _ hp (s1.trans s2) h2 σ (some dd) ((hE.up s1.gg).up s2.gg) (.inr ⟨dd, [v], rfl, upd_same, .cons (dv.up s2.gg) .nil⟩)
/-- the ends of an except suite: its name goes -/
def suiteR (i : Nat) (k : TEnv → Mem → Prop) (R : RK) : RK
  | .nx τ, M => k (τ.set i none) M
  | .ct τ, M => R (.ct (τ.set i none)) M
  | .bk τ, M => R (.bk (τ.set i none)) M
  | .rt d, M => R (.rt d) M
  | .ex _ _, _ => False
/-- the ends of a try's body -/
def tryR (X : Cx) (c : Value) (i : Nat) (b₀ : Stmt) (suite : List Stmt) (k : TEnv → Mem → Prop) (R : RK) : RK
  | .nx τ, M => k τ M
  | .ex x τ, M => ∃ b, PySem.W.exmOne X.K (.ref x.C) c = some b ∧ (b = true → x.ns ≠ [] ∧ ∀ a dd oe pn, Zc (.ref x.C) (some dd) oe → (∃ vs, oe.data = .fields vs) → WS (X.suite a ((a, oe) :: pn)) false (b₀ :: suite) (τ.set i (some (.xn a dd x.ns x.ds))) M (suiteR i k R)) ∧ (b = false → R (.ex x τ) M)
  | o, M => R o M
/-- try: body, except x as n: suite -/
theorem ws_try {body suite : List Stmt} {b₀ : Stmt} {np pos' : Pos} {c : Value} (hs : X.stack = X.env :: X.outer) (hf : X.env.frame = some X.env.locals) (hc : Names X x c)
    (h : ∀ pn xe, PassesOwn (model X.prog X.w) X.A X.env xe → WS (X.tr pn xe) false body τ M (tryR X c (ixIn X.N n) b₀ suite (fun τ' M' => WS X T rest τ' M' R) R))
    (hi : X.N[ixIn X.N n]? = some n := by rfl) (hN : X.N.Nodup := by first | decide +kernel | exact of_decide_eq_true (by kernel_rfl)) (hln : X.env.kindOf n = some .local := by rfl) :
    WS X T (.Try body [.ExceptHandler (some (.Name x np)) (some n) (b₀ :: suite) pos'] [] [] pos :: rest) τ M R := .mk fun W tk σ G H hE hH D hR => tWSs_len fun hl => by
  have hlt : ixIn X.N n < σ.length := by rw [hl]; exact (List.getElem?_eq_some_iff.mp hi).1
  refine ws_step (ps_try_as (i := ixIn X.N n) (tb := fun W D σ H => ∀ pn xe, Takes (X.tr pn xe) W → PassesOwn (model X.prog X.w) X.A X.env xe → tWSs (X.tr pn xe) false body D σ H)
    (ts := fun a cls d D σ H => ∀ oe pn, Zc cls d oe → (∃ vs, oe.data = .fields vs) → tWSs (X.suite a ((a, oe) :: pn)) false (b₀ :: suite) D σ H) hs hf hN hi hln hc tk
    (fun W pn xe tk po => ⟨fun pins s σ H D I h => h pn xe tk po pins s tk_f I⟩) (fun a oe cls d pn hz hv => ⟨fun pins s σ H D I h => h oe pn hz hv pins s tk_f I⟩)) ?_
  intro pn xe tk2 po
  refine (h pn xe po).run _ tk2 σ G H hE hH _ ?_
  intro o M2 G2 H2 r s2 h2
  cases o with
  | nx τ' => exact fun σ' hE' => r.run W tk σ' G2 H2 hE' h2 D (hR.step s2)
  | rt d => exact hR _ _ _ _ r s2 h2
  | bk τ' => exact hR _ _ _ _ r s2 h2
  | ct τ' => exact hR _ _ _ _ r s2 h2
  | ex y τ' =>
    intro σ' d hE' dx
    obtain ⟨b, hb, h1, h0⟩ := r
    refine ⟨b, hb, fun e => ?_, fun e => hR _ _ _ _ (h0 e) s2 h2 σ' d hE' dx⟩
    obtain ⟨hns, h1⟩ := h1 e
    intro a ha oe pn hz hv
    rcases dx with ⟨z, _⟩ | ⟨dd, vs, rfl, hg, dv⟩
    · exact absurd z hns
    · refine fun pins s kt I => ?_
      have hl2 := I.len
      have hlt2 : ixIn X.N n < σ'.length := by
        have : (σ'.set (ixIn X.N n) (some (.ref a))).length = X.N.length := hl2
        rw [List.length_set] at this
        rw [this]; exact (List.getElem?_eq_some_iff.mp hi).1
      refine (h1 a dd oe pn hz hv).run _ takes0 (σ'.set (ixIn X.N n) (some (.ref a))) G2 H2 (hE'.set hlt2 (by simp only [Den, true_and]; exact ⟨vs, hg, dv⟩)) h2 _ ?_ pins s kt I
      intro o M3 G3 H3 r3 s3 h3
      cases o with
      | nx τ3 => exact fun σ3 e3 => r3.run W tk _ G3 H3 e3.unset h3 D (hR.step (s2.trans s3))
      | rt d => exact fun v dv => hR _ _ _ _ r3 (s2.trans s3) h3 v dv
      | bk τ3 => exact fun σ3 e3 => hR _ _ _ _ r3 (s2.trans s3) h3 _ e3.unset
      | ct τ3 => exact fun σ3 e3 => hR _ _ _ _ r3 (s2.trans s3) h3 _ e3.unset
      | ex z τ3 => exact r3.elim
/-- err.f in the suite -/
theorem ex_ev {a dd : Addr} {oe : Obj} {pn : List (Addr × Obj)} {xns : List Str} {ds : List Dat} {z : Dat} (Tx : XfC X.K C) (hno : PySem.W.findIn X.K (.ref C) f = some none) (hz : Zc (.ref C) (some dd) oe) (hv : ∃ vs, oe.data = .fields vs)
    (ht : X.N[ixIn X.N n]? = some n ∧ τ[ixIn X.N n]? = some (some (.xn a dd xns ds))) (hl : (xns.zip ds).lookup f = some z) (h : P z M) (hvis : Vis X.env.scope n := by first | exact Or.inl rfl | exact Or.inr (Or.inl rfl) | exact Or.inr (Or.inr rfl))
    (hd : (n == ("__debug__" : Str)) = false := by decide) (hcd : (n == ("__classdict__" : Str)) = false := by decide) (hb : attributeBase (.Name n p) f X.env (eval (.Name n p) X.env) = eval (.Name n p) X.env := by rfl) :
    EX (X.suite a ((a, oe) :: pn)) T (.Attribute (.Name n p) f pos) τ M P E := .mk fun W tk σ G H hE hH Q hP hX => by
  obtain ⟨v, h1, h2⟩ := hE _ _ ht.2
  obtain ⟨vs, rfl, g1, g2⟩ := h2.xn_inv
  obtain ⟨u, l1, l2⟩ := denL_lookup g2 hl
  have q := pe_xf Tx hno hz hv (pe_var (X := X.suite a ((a, oe) :: pn)) (pos := p) ht.1 hvis hd hcd) (pos := pos) hb
  refine tW_of q ?_
  exact ⟨_, h1, rfl, rfl, dd, _, u, rfl, hH.sub _ _ g1, l1, hP _ _ _ _ _ h Stp.refl hH l2⟩
end
end Kh

set_option Elab.async false
set_option linter.all false
set_option maxRecDepth 100000
set_option maxHeartbeats 1000000
namespace Kh
open PySem PySem.Spec L2
section
variable {X : Cx} {T : Bool} {τ : TEnv} {M : Mem} {P : PK'} {E : XKx} {e a b c o value : Expr} {es : List Expr} {pos pos' apos tpos : Pos} {R : RK} {rest : List Stmt} {x : Str}
/-- the name of a built-in type -/
theorem ex_gty {n : String} (hm : X.mg x = none) (hv : bootBuiltins x = some (.type n)) (h : P (.raw (.ty n)) M) (hg : Gl X x := by rfl) (hn : x ≠ "__name__" := by decide) (hd : (x == ("__debug__" : Str)) = false := by decide) : EX X T (.Name x pos) τ M P E :=
  ex_c (pe_bltn (v := .ty n) hg hm hv rfl hn hd) (fun _ => den_raw) h
/-- a list cell is changed no more -/
def FrzP (P : PK') : PK' := fun d M => ∃ p ds M3, d = .raw (.ref p) ∧ M.Perm ((p, .lst ds) :: M3) ∧ P (.lst ds) M3
theorem ex_frz (h : EX X T e τ M (FrzP P) E) : EX X T e τ M P E := .mk fun W tk σ G H hE hH Q hP hX =>
  h.run W tk σ G H hE hH Q (fun d M2 v G2 H2 ⟨p, ds, M3, ed, pm, hp⟩ s h2 dv => by
    subst ed
    obtain ⟨G', s3, h3, d3⟩ := freezeL (h2.perm pm)
    rw [dv.raw_inv]
    exact hP _ _ _ _ _ hp ((s.perm (List.Perm.refl _) pm).trans s3) h3 d3) hX
/-- cells that nothing names any more -/
theorem Hst.drop {K : PySem.W.Frag} {G H : Hp} {A B : Mem} (h : Hst K G (A ++ B) H) : Hst K G A H := h.left
theorem Stp.drop {G H G2 H2 : Hp} {A B : Mem} (s : Stp G M H G2 (A ++ B) H2) : Stp G M H G2 A H2 := ⟨s.gg, s.hh, s.fr, fun b hb => s.ad b (by rw [adr_append]; exact List.mem_append_left _ hb)⟩
def DropP (P : PK') : PK' := fun d M => ∃ A B, M.Perm (A ++ B) ∧ P d A
theorem ex_drop (h : EX X T e τ M (DropP P) E) : EX X T e τ M P E := .mk fun W tk σ G H hE hH Q hP hX =>
  h.run W tk σ G H hE hH Q (fun d M2 v G2 H2 ⟨A, B, pm, hp⟩ s h2 dv => hP _ _ _ _ _ hp (s.perm (List.Perm.refl _) pm).drop (h2.perm pm).drop dv) hX
theorem ws_drop {ss : List Stmt} {A B : Mem} (pm : M.Perm (A ++ B)) (h : WS X T ss τ A R) : WS X T ss τ M R := .mk fun W tk σ G H hE hH D hR => by
  have h2 := hH.perm pm
  have s2 : Stp G M H G A H := (Stp.refl.perm (List.Perm.refl _) pm).drop
  exact h.run W tk σ G H hE h2.drop D (hR.step s2)
end
/-- the class that an except clause names: own classes -/
theorem exm_of {K : PySem.W.Frag} {S D : Addr} {b : Bool} (h1 : PySem.W.subIn K (.ref D) (.type "BaseException") = some true) (h2 : PySem.W.isClsIn K D = true) (h3 : PySem.W.typeIn K (.ref D) = some (.type "type")) (h4 : PySem.W.subIn K (.ref S) (.ref D) = some b) :
    PySem.W.exmOne K (.ref S) (.ref D) = some b := by
  have e1 : (PySem.W.subIn K (.ref D) (.type "BaseException") == some true) = true := by rw [h1] <;> rfl
  have e2 : ((PySem.W.clsIn K D).isSome && PySem.W.typeIn K (.ref D) == some (.type "type")) = true := by
    have h2' : (PySem.W.clsIn K D).isSome = true := h2
    rw [h2', h3] <;> rfl
  show (if (PySem.W.subIn K (.ref D) (.type "BaseException") == some true) = true then (if ((PySem.W.clsIn K D).isSome && PySem.W.typeIn K (.ref D) == some (.type "type")) = true then PySem.W.subIn K (.ref S) (.ref D) else none) else none) = some b
  rw [if_pos e1, if_pos e2]
  exact h4
/-- the law's def at its script -/
theorem law_spS {K : PySem.W.Frag} {H : Hp} {a : Addr} {ns : List Int} {S : Spc} (hS : SqL K H a (ns.map V.int)) (h : S [.scr ns] [] (fun d _ => d = .bl true) E0') : toSp K S [.ref a] H (fun v _ => v = .bl true) fun _ _ _ => False :=
  ⟨H, [.scr ns], [], _, _, .cons (by simp only [Den]; exact ⟨a, rfl, hS⟩) .nil, ⟨Same.refl _, (fun _ h => by cases h), (fun _ h => by cases h), List.Pairwise.nil⟩, h, fun d M2 v G2 H2 e s h2 dv => by subst e; exact dv.bl_inv, noX⟩
/-! ### isinstance(d, int), isinstance(d, bool) of plain data -/
def isInt : Dat → Bool
  | .int _ => true
  | .bl _ => true
  | _ => false
def isBool : Dat → Bool
  | .bl _ => true
  | _ => false
/-- a whole number and no Boolean -/
def isWh : Dat → Bool
  | .int _ => true
  | _ => false
/-- what isinstance says of d -/
def KInt (K : PySem.W.Frag) (d : Dat) : Prop := ∀ M, ∃ t, TyD K M d t ∧ PySem.W.kitOne K t (.type "int") = some (isInt d) ∧ (isInt d = true → PySem.W.kitOne K t (.type "bool") = some (isBool d))
section
variable {K : PySem.W.Frag}
theorem kint_non : KInt K .non := fun M => ⟨_, .non, by rfl, fun h => nomatch h⟩
theorem kint_bl {b : Bool} : KInt K (.bl b) := fun M => ⟨_, .bl, by rfl, fun _ => by rfl⟩
theorem kint_int {i : Int} : KInt K (.int i) := fun M => ⟨_, .int, by rfl, fun _ => by rfl⟩
theorem kint_str {s : Str} : KInt K (.str s) := fun M => ⟨_, .str, by rfl, fun h => nomatch h⟩
theorem kint_lst {ds : List Dat} : KInt K (.lst ds) := fun M => ⟨_, .lst, by rfl, fun h => nomatch h⟩
theorem kint_tup {ds : List Dat} : KInt K (.tup ds) := fun M => ⟨_, .tup, by rfl, fun h => nomatch h⟩
theorem kint_dic0 : KInt K .dic0 := fun M => ⟨_, .dic0, by rfl, fun h => nomatch h⟩
theorem kint_atd {a : Addr} : KInt K (.at a .dic0) := fun M => ⟨_, .at .dic0, by rfl, fun h => nomatch h⟩
theorem kint_atl {a : Addr} {ds : List Dat} : KInt K (.at a (.lst ds)) := fun M => ⟨_, .at .lst, by rfl, fun h => nomatch h⟩
theorem kint_obj {C : Addr} {ns : List Str} {ds : List Dat} (h : ICls K C) (hk : PySem.W.kitOne K (.ref C) (.type "int") = some false) : KInt K (.obj C ns ds) := fun M => ⟨_, .obj h, hk, fun h => nomatch h⟩
end
/-! ### calls of defs, all cells handed -/
def UpP {α : Type} (P : α → Mem → Prop) : α → Mem → Prop := fun d Mc => ∃ M2, (Mc ++ []).Perm M2 ∧ P d M2
theorem UpP.mk {α : Type} {P : α → Mem → Prop} {d : α} {M : Mem} (h : P d M) : UpP P d M := ⟨M, by rw [List.append_nil], h⟩
theorem ap_all {S : Spc} {ds : List Dat} {M : Mem} {P : PK'} {E : XKx} (h : S ds M (UpP P) (UpP E)) : AP S ds M P E := ⟨M, [], by rw [List.append_nil], h⟩
section
variable {X : Cx} {T : Bool} {τ : TEnv} {M : Mem} {P : PK'} {E : XKx} {e o : Expr} {es : List Expr} {pos p apos : Pos} {k : Nat} {f C : Addr} {fd : FuncData} {ps : List Str} {S : Spc} {x m qual : Str} {st : Stmt}
theorem ex_callF (F : FnD X.prog X.w X.K X.mg X.base k f fd ps S) (hr : Room k X.A) (hm : X.mg x = some (.ref f)) (FF : Fun X.K x qual st f fd) (hb : Binds X.K fd ps [])
    (h : EA X T (e :: es) τ M (fun ds M1 => S ds M1 (UpP P) (UpP E)) E) (hg : Gl X x := by rfl) (hdb : (x == ("__debug__" : Str)) = false := by decide) (he : starEach (e :: es) X.env = (false, eval e X.env) :: starEach es X.env := by rfl) (hpl : (backTo pos (starEach es X.env)).any (·.1) = false := by rfl) :
    EX X T (.Call (.Name x p) (e :: es) [] pos) τ M P E := ex_call (df := []) (dvs := []) F hr hm FF.kp hb .nil (fun _ => .nil) (.mk fun W tk σ G H hE hH Q hP hX => h.run W tk σ G H hE hH Q (fun ds M2 vs G2 H2 hs => hP ds M2 vs G2 H2 (by show AP S (ds ++ []) M2 P E; rw [List.append_nil]; exact ap_all hs)) hX) hg hdb he hpl
end
section
variable {X : Cx} {T : Bool} {τ : TEnv} {M : Mem} {R : RK} {rest : List Stmt}
/-- a, b = x, y with plain local names -/
theorem ws_par {x y : Str} {a b : Expr} {px py pt pos : Pos} {kt k2 pt2} (h : EA X false [a, b] τ M (fun ds M1 => ∃ d1 d2, ds = [d1, d2] ∧ WS X T rest ((τ.set (ixIn X.N x) (some d1)).set (ixIn X.N y) (some d2)) M1 R) (fun z M1 => R (.ex z τ) M1))
    (hc : X.calm = true := by rfl) (hi : X.N[ixIn X.N x]? = some x := by rfl) (hj : X.N[ixIn X.N y]? = some y := by rfl) (hij : ixIn X.N x ≠ ixIn X.N y := by first | decide | exact of_decide_eq_true (by kernel_rfl)) (hN : X.N.Nodup := by first | decide +kernel | exact of_decide_eq_true (by kernel_rfl))
    (hx : X.env.scope.names.lookup x = some .local := by rfl) (hy : X.env.scope.names.lookup y = some .local := by rfl)
    (hw : swappedStores [.Tuple [.Name x px, .Name y py] kt pt] (.Tuple [a, b] k2 pt2) X.env = pure (some [x, y]) := by rfl)
    (hs : swapsWithSole [.Tuple [.Name x px, .Name y py] kt pt] (.Tuple [a, b] k2 pt2) pos.line X.env = pure false := by rfl) :
    WS X T (.Assign [.Tuple [.Name x px, .Name y py] kt pt] (.Tuple [a, b] k2 pt2) pos :: rest) τ M R := .mk fun W tk σ G H hE hH D hR => tWSs_len fun hl => by
  refine ws_step (ps_par hc hN hi hj hij hx hy pa_W hw hs) ?_
  refine h.run W tk σ G H hE hH _ ?_ (ex_out hR hE)
  rintro ds M1 vs G1 H1 ⟨d1, d2, rfl, hk⟩ s1 h1 dv
  obtain ⟨v, u, rfl, e1, e2⟩ := two_inv dv
  refine ⟨v, u, rfl, ?_⟩
  have l1 : ixIn X.N x < σ.length := by rw [hl]; exact (List.getElem?_eq_some_iff.mp hi).1
  have l2 : ixIn X.N y < (σ.set (ixIn X.N x) (some v)).length := by rw [List.length_set, hl]; exact (List.getElem?_eq_some_iff.mp hj).1
  exact hk.run W tk _ G1 H1 (((hE.up s1.gg).set l1 e1).set l2 e2) h1 D (hR.step s1)
theorem ws_par3 {x y z : Str} {a b c : Expr} {px py pz pt pos : Pos} {kt k2 pt2} (h : EA X false [a, b, c] τ M (fun ds M1 => ∃ d1 d2 d3, ds = [d1, d2, d3] ∧ WS X T rest (((τ.set (ixIn X.N x) (some d1)).set (ixIn X.N y) (some d2)).set (ixIn X.N z) (some d3)) M1 R) (fun z M1 => R (.ex z τ) M1))
    (hc : X.calm = true := by rfl) (hi : X.N[ixIn X.N x]? = some x := by rfl) (hj : X.N[ixIn X.N y]? = some y := by rfl) (hk : X.N[ixIn X.N z]? = some z := by rfl) (hij : ixIn X.N x ≠ ixIn X.N y := by first | decide | exact of_decide_eq_true (by kernel_rfl))
    (hik : ixIn X.N x ≠ ixIn X.N z := by first | decide | exact of_decide_eq_true (by kernel_rfl)) (hjk : ixIn X.N y ≠ ixIn X.N z := by first | decide | exact of_decide_eq_true (by kernel_rfl)) (hN : X.N.Nodup := by first | decide +kernel | exact of_decide_eq_true (by kernel_rfl))
    (hx : X.env.scope.names.lookup x = some .local := by rfl) (hy : X.env.scope.names.lookup y = some .local := by rfl) (hz : X.env.scope.names.lookup z = some .local := by rfl)
    (hw : swappedStores [.Tuple [.Name x px, .Name y py, .Name z pz] kt pt] (.Tuple [a, b, c] k2 pt2) X.env = pure (some [x, y, z]) := by rfl)
    (hs : swapsWithSole [.Tuple [.Name x px, .Name y py, .Name z pz] kt pt] (.Tuple [a, b, c] k2 pt2) pos.line X.env = pure false := by rfl) :
    WS X T (.Assign [.Tuple [.Name x px, .Name y py, .Name z pz] kt pt] (.Tuple [a, b, c] k2 pt2) pos :: rest) τ M R := .mk fun W tk σ G H hE hH D hR => tWSs_len fun hl => by
  refine ws_step (ps_par3 hc hN hi hj hk hij hik hjk hx hy hz pa_W hw hs) ?_
  refine h.run W tk σ G H hE hH _ ?_ (ex_out hR hE)
  rintro ds M1 vs G1 H1 ⟨d1, d2, d3, rfl, hkk⟩ s1 h1 dv
  obtain ⟨v, r, rfl, e1, dv⟩ := dv.cons_inv
  obtain ⟨u, u', rfl, e2, e3⟩ := two_inv dv
  refine ⟨v, u, u', rfl, ?_⟩
  have l1 : ixIn X.N x < σ.length := by rw [hl]; exact (List.getElem?_eq_some_iff.mp hi).1
  have l2 : ixIn X.N y < (σ.set (ixIn X.N x) (some v)).length := by rw [List.length_set, hl]; exact (List.getElem?_eq_some_iff.mp hj).1
  have l3 : ixIn X.N z < ((σ.set (ixIn X.N x) (some v)).set (ixIn X.N y) (some u)).length := by rw [List.length_set, List.length_set, hl]; exact (List.getElem?_eq_some_iff.mp hk).1
  exact hkk.run W tk _ G1 H1 ((((hE.up s1.gg).set l1 e1).set l2 e2).set l3 e3) h1 D (hR.step s1)
end
/-- ** of a wide base -/
def CPowW (i j : Int) : Prop := 0 ≤ j ∧ (Builtin.Int.intBits i : Int) * j ≤ 2 ^ 27
instance {i j : Int} : Decidable (CPowW i j) := inferInstanceAs (Decidable (_ ∧ _))
theorem op_powW {X : Cx} : OpR X (binaryOp .Pow) (rI CPowW fun i j => .int (i ^ j.toNat)) := opI fun _ _ _ _ _ _ _ hc q => PyProof.Rows.pow_int hc.1 hc.2 q
theorem o_powW {X : Cx} {T : Bool} {M : Mem} {P : PK'} {i j : Int} (hc : CPowW i j) (h : P (.int (i ^ j.toNat)) M) : OP X T (binaryOp .Pow) (.int i) (.int j) M P := op_IIc op_powW hc (fun _ => den_int) h
theorem mem_putC {p : Addr} {c c' : MC} : ∀ {M : Mem}, (p, c) ∈ M → (p, c') ∈ putC p c' M
  | (q, d) :: M, h => by
    show (p, c') ∈ if q = p then (p, c') :: M else (q, d) :: putC p c' M
    by_cases e : q = p
    · rw [if_pos e]; exact List.mem_cons_self
    · rw [if_neg e]
      rcases List.mem_cons.mp h with z | z
      · cases z; exact absurd rfl e
      · exact List.mem_cons_of_mem _ (mem_putC z)
theorem putC_putC {p : Addr} {c c' : MC} : ∀ {M : Mem}, putC p c' (putC p c M) = putC p c' M
  | [] => rfl
  | (q, d) :: M => by
    by_cases e : q = p
    · subst e; simp [putC]
    · simp [putC, e, putC_putC]
theorem mem_putC_ne {p q : Addr} {c d : MC} : ∀ {M : Mem}, (q, d) ∈ M → q ≠ p → (q, d) ∈ putC p c M
  | (r, e) :: M, h, n => by
    show (q, d) ∈ if r = p then (p, c) :: M else (r, e) :: putC p c M
    by_cases z : r = p
    · rw [if_pos z]
      rcases List.mem_cons.mp h with y | y
      · cases y; exact absurd z n
      · exact List.mem_cons_of_mem _ y
    · rw [if_neg z]
      rcases List.mem_cons.mp h with y | y
      · exact List.mem_cons.mpr (.inl y)
      · exact List.mem_cons_of_mem _ (mem_putC_ne y n)
theorem WS.imp {X : Cx} {T : Bool} {τ : TEnv} {M : Mem} {R R' : RK} {ss : List Stmt} (h : WS X T ss τ M R') (hi : ∀ o M2, R' o M2 → R o M2) : WS X T ss τ M R := .mk fun W tk σ G H hE hH D hR =>
  h.run W tk σ G H hE hH D fun o M2 G2 H2 r s h2 => hR o M2 G2 H2 (hi _ _ r) s h2
end Kh

set_option Elab.async false
set_option linter.all false
set_option maxRecDepth 100000
set_option maxHeartbeats 1000000
namespace Kh
open PySem PySem.Spec L2
/-! ### data that are equal by their shape, or are one object -/
mutual
def eqT : Dat → Dat → Bool
  | .non, .non => true
  | .bl a, .bl b => decide (a = b)
  | .int i, .int j => decide (i = j)
  | .str s, .str t => decide (s = t)
  | .lst xs, .lst ys => eqTL xs ys
  | .tup xs, .tup ys => eqTL xs ys
  | .at a _, .at b _ => decide (a = b)
  | .raw (.ref a), .raw (.ref b) => decide (a = b)
  | _, _ => false
def eqTL : List Dat → List Dat → Bool
  | [], [] => true
  | x :: xs, y :: ys => eqT x y && eqTL xs ys
  | _, _ => false
end
mutual
def dpD : Dat → Nat
  | .lst xs => dpDL xs + 1
  | .tup xs => dpDL xs + 1
  | _ => 1
def dpDL : List Dat → Nat
  | [] => 0
  | x :: xs => max (dpD x) (dpDL xs)
end
theorem all_true (n : Nat) : ((List.range n).all fun _ => true) = true := List.all_eq_true.mpr fun _ _ => rfl
section
variable {X : Cx} {pins : List (Addr × Obj)} {σ : L2.St} {H G : Hp} {s : Shared}
open PySem.SeqAt (EqAt RcAt RcNeAt)
theorem eqTL_len : ∀ {xs ys : List Dat}, eqTL xs ys = true → xs.length = ys.length
  | [], [], _ => rfl
  | x :: xs, y :: ys, h => by
    simp only [eqTL, Bool.and_eq_true] at h
    simp only [List.length_cons, eqTL_len h.2]
  | [], _ :: _, h => by simp [eqTL] at h
  | _ :: _, [], h => by simp [eqTL] at h
mutual
theorem eqT_run (I : Inv X pins σ H s) (hs : Same G H) : ∀ (x y : Dat) (A : Around) (v u : V) (v' u' : Value), eqT x y = true → A.units + dpD x < cLine → Den X.K G x v → Den X.K G y u → RelV v v' → RelV u u' → EqAt A s v' u' true
  | .non, y, A, v, u, v', u', h, hu, dx, dy, r, r' => by
    cases y <;> simp [eqT] at h
    rw [dx.non_inv] at r; rw [dy.non_inv] at r'
    exact eqAt_same r r' rfl
  | .bl a, y, A, v, u, v', u', h, hu, dx, dy, r, r' => by
    cases y <;> simp [eqT] at h
    subst h
    rw [dx.bl_inv] at r; rw [dy.bl_inv] at r'
    exact eqAt_same r r' rfl
  | .int i, y, A, v, u, v', u', h, hu, dx, dy, r, r' => by
    cases y <;> simp [eqT] at h
    subst h
    rw [dx.int_inv] at r; rw [dy.int_inv] at r'
    exact eqAt_same r r' rfl
  | .str i, y, A, v, u, v', u', h, hu, dx, dy, r, r' => by
    cases y <;> simp [eqT] at h
    subst h
    rw [dx.str_inv] at r; rw [dy.str_inv] at r'
    exact eqAt_same r r' rfl
  | .at a d, y, A, v, u, v', u', h, hu, dx, dy, r, r' => by
    cases y <;> simp [eqT] at h
    subst h
    obtain ⟨rfl, _⟩ := dx.at_inv
    obtain ⟨rfl, _⟩ := dy.at_inv
    cases r; cases r'
    exact EqAt.same _
  | .lst xs, y, A, v, u, v', u', h, hu, dx, dy, r, r' => by
    cases y with
    | lst ys =>
      have h : eqTL xs ys = true := by simpa [eqT] using h
      have hu : A.units + (dpDL xs + 1) < cLine := by simpa only [dpD] using hu
      obtain ⟨a, vs, rfl, ga, da⟩ := dx.lst_inv
      obtain ⟨b, us, rfl, gb, db⟩ := dy.lst_inv
      cases r; cases r'
      by_cases e : a = b
      · subst e; exact EqAt.same _
      · obtain ⟨ws, r1, p1, _⟩ := I.list (SqL.of (hs _ _ ga))
        obtain ⟨zs, r2, p2, _⟩ := I.list (SqL.of (hs _ _ gb))
        have hz : ws.toArray.size = zs.toArray.size := by rw [List.size_toArray, List.size_toArray, ← r1.length, ← r2.length, da.length, db.length, eqTL_len h]
        refine EqAt.of_refs e ?_
        have := RcAt.lists (A := A) (e := fun _ => true) p1.isList p2.isList hz (by omega) (fun j h1 h2 => by
          have := eqTL_run I hs xs ys A.in1 vs us ws zs h (by show A.units + 1 + dpDL xs < cLine; omega) da db r1 r2 j (by simpa using h1) (by simpa using h2)
          simpa using this)
        rw [all_true] at this
        exact this
    | _ => simp [eqT] at h
  | .tup xs, y, A, v, u, v', u', h, hu, dx, dy, r, r' => by
    cases y with
    | tup ys =>
      have h : eqTL xs ys = true := by simpa [eqT] using h
      have hu : A.units + (dpDL xs + 1) < cLine := by simpa only [dpD] using hu
      obtain ⟨a, vs, rfl, ga, da⟩ := dx.tup_inv
      obtain ⟨b, us, rfl, gb, db⟩ := dy.tup_inv
      cases r; cases r'
      by_cases e : a = b
      · subst e; exact EqAt.same _
      · obtain ⟨ws, r1, p1, _⟩ := I.tuple (SqT.of (hs _ _ ga))
        obtain ⟨zs, r2, p2, _⟩ := I.tuple (SqT.of (hs _ _ gb))
        have hz : ws.toArray.size = zs.toArray.size := by rw [List.size_toArray, List.size_toArray, ← r1.length, ← r2.length, da.length, db.length, eqTL_len h]
        refine EqAt.of_refs e ?_
        have := RcAt.tuples (A := A) (e := fun _ => true) p1 p2 (by omega) (fun j h1 h2 => by
          have := eqTL_run I hs xs ys A.in1 vs us ws zs h (by show A.units + 1 + dpDL xs < cLine; omega) da db r1 r2 j (by simpa using h1) (by simpa using h2)
          simpa using this)
        rw [all_true, hz] at this
        simpa using this
    | _ => simp [eqT] at h
  | .raw w, y, A, v, u, v', u', h, hu, dx, dy, r, r' => by
    have e : ∃ a, w = .ref a ∧ y = .raw (.ref a) := by
      cases y with
      | raw z =>
        cases w <;> cases z <;> simp [eqT] at h
        subst h; exact ⟨_, rfl, rfl⟩
      | _ => cases w <;> simp [eqT] at h
    obtain ⟨a, rfl, rfl⟩ := e
    rw [dx.raw_inv] at r; rw [dy.raw_inv] at r'
    cases r; cases r'
    exact EqAt.same _
  | .dic0, y, A, v, u, v', u', h, hu, dx, dy, r, r' => by simp [eqT] at h
  | .scr ns, y, A, v, u, v', u', h, hu, dx, dy, r, r' => by simp [eqT] at h
  | .obj C ns ds, y, A, v, u, v', u', h, hu, dx, dy, r, r' => by simp [eqT] at h
  | .xn a dd ns ds, y, A, v, u, v', u', h, hu, dx, dy, r, r' => by simp [eqT] at h
theorem eqTL_run (I : Inv X pins σ H s) (hs : Same G H) : ∀ (xs ys : List Dat) (A : Around) (vs us : List V) (ws zs : List Value), eqTL xs ys = true → A.units + dpDL xs < cLine → DenL X.K G xs vs → DenL X.K G ys us → Vals vs ws → Vals us zs →
    ∀ j (h1 : j < ws.length) (h2 : j < zs.length), EqAt A s ws[j] zs[j] true
  | [], ys, A, vs, us, ws, zs, h, hu, dx, dy, r, r', j, h1, h2 => by
    rw [dx.nil_inv] at r
    cases r
    exact absurd h1 (Nat.not_lt_zero _)
  | x :: xs, ys, A, vs, us, ws, zs, h, hu, dx, dy, r, r', j, h1, h2 => by
    cases ys with
    | nil => simp [eqTL] at h
    | cons y ys =>
      simp only [eqTL, Bool.and_eq_true] at h
      have hu : A.units + max (dpD x) (dpDL xs) < cLine := by simpa only [dpDL] using hu
      obtain ⟨v, vr, rfl, dv, dvr⟩ := dx.cons_inv
      obtain ⟨u, ur, rfl, du, dur⟩ := dy.cons_inv
      cases r with
      | cons ra rb =>
        cases r' with
        | cons ra' rb' =>
          cases j with
          | zero => exact eqT_run I hs x y A v u _ _ h.1 (by omega) dv du ra ra'
          | succ j => exact eqTL_run I hs xs ys A vr ur _ _ h.2 (by omega) dvr dur rb rb' j (Nat.lt_of_succ_lt_succ h1) (Nat.lt_of_succ_lt_succ h2)
end
end
section
variable {X : Cx} {T : Bool} {τ : TEnv} {M : Mem} {P : PK'} {E : XKx} {e a b c o value : Expr} {es : List Expr} {pos pos' apos tpos : Pos} {R : RK} {rest : List Stmt} {x : Str}
open PySem.SeqAt (EqAt RcAt RcNeAt)
/-- two lists of one shape: !=, == -/
theorem o_neLT {xs ys : List Dat} (h : eqTL xs ys = true) (hd : dpDL xs ≤ 60) (hu : X.A.units + 64 < cLine) (hP : P (.bl false) M) : OP X T (compareOp .NotEq) (.lst xs) (.lst ys) M P := by
  intro G H v u hH dx dy Q hQ pins s σ v' u' _ I r r'
  obtain ⟨a, vs, rfl, ga, da⟩ := dx.lst_inv
  obtain ⟨b, us, rfl, gb, db⟩ := dy.lst_inv
  cases r; cases r'
  obtain ⟨ws, r1, p1, _⟩ := I.list (SqL.of (hH.sub _ _ ga))
  obtain ⟨zs, r2, p2, _⟩ := I.list (SqL.of (hH.sub _ _ gb))
  have hz : ws.toArray.size = zs.toArray.size := by rw [List.size_toArray, List.size_toArray, ← r1.length, ← r2.length, da.length, db.length, eqTL_len h]
  have := RcNeAt.lists (A := X.A) (e := fun _ => true) p1.isList p2.isList hz (by omega) (fun j h1 h2 => by
    have := eqTL_run I hH.sub xs ys X.A.in1 vs us ws zs h (by show X.A.units + 1 + dpDL xs < cLine; omega) da db r1 r2 j (by simpa using h1) (by simpa using h2)
    simpa using this)
  rw [all_true] at this
  exact this _ _ _ _ ⟨.bl false, H, I, rfl, hQ _ _ _ _ _ hP Stp.refl hH den_bl⟩
theorem o_eqLT {xs ys : List Dat} (h : eqTL xs ys = true) (hd : dpDL xs ≤ 60) (hu : X.A.units + 64 < cLine) (hP : P (.bl true) M) : OP X T (compareOp .Eq) (.lst xs) (.lst ys) M P := by
  intro G H v u hH dx dy Q hQ pins s σ v' u' _ I r r'
  obtain ⟨a, vs, rfl, ga, da⟩ := dx.lst_inv
  obtain ⟨b, us, rfl, gb, db⟩ := dy.lst_inv
  cases r; cases r'
  obtain ⟨ws, r1, p1, _⟩ := I.list (SqL.of (hH.sub _ _ ga))
  obtain ⟨zs, r2, p2, _⟩ := I.list (SqL.of (hH.sub _ _ gb))
  have hz : ws.toArray.size = zs.toArray.size := by rw [List.size_toArray, List.size_toArray, ← r1.length, ← r2.length, da.length, db.length, eqTL_len h]
  have := RcAt.lists (A := X.A) (e := fun _ => true) p1.isList p2.isList hz (by omega) (fun j h1 h2 => by
    have := eqTL_run I hH.sub xs ys X.A.in1 vs us ws zs h (by show X.A.units + 1 + dpDL xs < cLine; omega) da db r1 r2 j (by simpa using h1) (by simpa using h2)
    simpa using this)
  rw [all_true] at this
  exact this _ _ _ _ ⟨.bl true, H, I, rfl, hQ _ _ _ _ _ hP Stp.refl hH den_bl⟩
/-- two lists of different lengths -/
theorem o_eqLn {xs ys : List Dat} (h : xs.length ≠ ys.length) (hu : X.A.units + 64 < cLine) (hP : P (.bl false) M) : OP X T (compareOp .Eq) (.lst xs) (.lst ys) M P := by
  intro G H v u hH dx dy Q hQ pins s σ v' u' _ I r r'
  obtain ⟨a, vs, rfl, ga, da⟩ := dx.lst_inv
  obtain ⟨b, us, rfl, gb, db⟩ := dy.lst_inv
  cases r; cases r'
  obtain ⟨ws, r1, p1, _⟩ := I.list (SqL.of (hH.sub _ _ ga))
  obtain ⟨zs, r2, p2, _⟩ := I.list (SqL.of (hH.sub _ _ gb))
  have hz : (ws.toArray.size != zs.toArray.size) = true := by
    rw [List.size_toArray, List.size_toArray, ← r1.length, ← r2.length, da.length, db.length]
    simpa using h
  exact RcAt.lists_lengths (A := X.A) p1.isList p2.isList hz (by omega) _ _ _ _ ⟨.bl false, H, I, rfl, hQ _ _ _ _ _ hP Stp.refl hH den_bl⟩
theorem o_neLn {xs ys : List Dat} (h : xs.length ≠ ys.length) (hu : X.A.units + 64 < cLine) (hP : P (.bl true) M) : OP X T (compareOp .NotEq) (.lst xs) (.lst ys) M P := by
  intro G H v u hH dx dy Q hQ pins s σ v' u' _ I r r'
  obtain ⟨a, vs, rfl, ga, da⟩ := dx.lst_inv
  obtain ⟨b, us, rfl, gb, db⟩ := dy.lst_inv
  cases r; cases r'
  obtain ⟨ws, r1, p1, _⟩ := I.list (SqL.of (hH.sub _ _ ga))
  obtain ⟨zs, r2, p2, _⟩ := I.list (SqL.of (hH.sub _ _ gb))
  have hz : (ws.toArray.size != zs.toArray.size) = true := by
    rw [List.size_toArray, List.size_toArray, ← r1.length, ← r2.length, da.length, db.length]
    simpa using h
  exact RcNeAt.lists_lengths (A := X.A) p1.isList p2.isList hz (by omega) _ _ _ _ ⟨.bl true, H, I, rfl, hQ _ _ _ _ _ hP Stp.refl hH den_bl⟩
/-- {} -/
theorem ex_dict0 (h : ∀ q, P (.at q .dic0) M) : EX X T (.Dict [] [] pos) τ M P E := .mk fun W tk σ G H hE hH Q hP hX =>
  tW_of pe_dnewK fun q hq => by
    obtain ⟨s2, h2⟩ := Stp.new (o := .dK []) hH hq
    exact hP _ _ _ _ _ (h q) s2 h2 (den_at (by simp only [Den]; exact ⟨q, rfl, upd_same⟩))
end
/-! d is told equal to itself: no object of the heap but by its place -/
mutual
def selfE : Dat → Bool
  | .non | .bl _ | .int _ | .str _ | .at _ _ => true
  | .lst xs => selfEL xs
  | .tup xs => selfEL xs
  | _ => false
def selfEL : List Dat → Bool
  | [] => true
  | x :: xs => selfE x && selfEL xs
end
mutual
theorem eqT_self : ∀ d : Dat, selfE d = true → eqT d d = true
  | .non, _ => rfl
  | .bl _, _ => by simp [eqT]
  | .int _, _ => by simp [eqT]
  | .str _, _ => by simp [eqT]
  | .at _ _, _ => by simp [eqT]
  | .lst xs, h => by simp only [eqT]; exact eqTL_self xs (by simpa [selfE] using h)
  | .tup xs, h => by simp only [eqT]; exact eqTL_self xs (by simpa [selfE] using h)
  | .raw _, h => by simp [selfE] at h
  | .dic0, h => by simp [selfE] at h
  | .scr _, h => by simp [selfE] at h
  | .obj _ _ _, h => by simp [selfE] at h
  | .xn _ _ _ _, h => by simp [selfE] at h
theorem eqTL_self : ∀ ds : List Dat, selfEL ds = true → eqTL ds ds = true
  | [], _ => rfl
  | d :: ds, h => by
    simp only [selfEL, Bool.and_eq_true] at h
    simp only [eqTL, Bool.and_eq_true]
    exact ⟨eqT_self d h.1, eqTL_self ds h.2⟩
end
theorem ws_dropN {X : Cx} {T : Bool} {τ : TEnv} {M : Mem} {R : RK} {ss : List Stmt} (h : WS X T ss τ [] R) : WS X T ss τ M R := ws_drop (A := []) (B := M) (List.Perm.refl _) h
end Kh

set_option Elab.async false
set_option linter.all false
set_option maxRecDepth 100000
set_option maxHeartbeats 1000000
namespace Kh
open PySem PySem.Spec L2
section
variable {X : Cx} {T : Bool} {τ : TEnv} {M : Mem} {P : PK'} {E : XKx} {e a b c o value : Expr} {es : List Expr} {pos pos' p apos tpos : Pos} {R : RK} {rest : List Stmt} {x f n : Str} {C D fa : Addr} {k : Nat} {fd : FuncData} {ps : List Str} {S : Spc}
/-! ### self.f = e -/
def putD (f : Str) (v : Dat) : List (Str × Dat) → List (Str × Dat)
  | [] => [(f, v)]
  | (g, x) :: r => if g = f then (g, v) :: r else (g, x) :: putD f v r
theorem denF_put {K : PySem.W.Frag} {G : Hp} {d : Dat} {v : V} (h : Den K G d v) : ∀ {fs : List (Str × Dat)} {vs : List (Str × V)}, DenF K G fs vs → DenF K G (putD f d fs) (putF f v vs)
  | [], [], _ => ⟨rfl, .cons h .nil⟩
  | [], _ :: _, q => by have := q.1; simp at this
  | _ :: _, [], q => by have := q.1; simp at this
  | (g, x) :: fs, (g', u) :: vs, ⟨q1, q2⟩ => by
    rw [List.map_cons, List.map_cons] at q1
    obtain ⟨e1, e2⟩ := List.cons.inj q1
    have e1 : g' = g := e1
    subst e1
    obtain ⟨u', r, e, hu, t⟩ := (show DenL K G (x :: fs.map (·.2)) (u :: vs.map (·.2)) from q2).cons_inv
    obtain ⟨rfl, rfl⟩ := List.cons.inj e
    by_cases z : g' = f
    · simp only [putD, putF, if_pos z]
      exact ⟨by simp [e2], .cons h t⟩
    · simp only [putD, putF, if_neg z]
      have ih := denF_put h ⟨e2, t⟩
      exact ⟨by simp only [List.map_cons, ih.1], .cons hu ih.2⟩
theorem DenF.length {K : PySem.W.Frag} {G : Hp} {fs : List (Str × Dat)} {vs : List (Str × V)} (h : DenF K G fs vs) : vs.length = fs.length := by
  have := congrArg List.length h.1
  simpa using this
theorem ws_fld (h : EX X false value τ M (fun d M1 => EX X false o τ M1 (fun od M2 => ∃ q C dx fs, od = .raw (.ref q) ∧ (q, MC.ins C dx fs) ∈ M2 ∧ Cls X.K C ∧ NoAttr X.K C f ∧ fs.length < 1000 ∧ WS X T rest τ (putC q (.ins C dx (putD f d fs)) M2) R) (fun x M2 => R (.ex x τ) M2)) (fun x M1 => R (.ex x τ) M1))
    (hs : swapsWith value (some (.Attribute o f pos')) pos.line X.env = pure false := by rfl) : WS X T (.Assign [.Attribute o f pos'] value pos :: rest) τ M R := .mk fun W tk σ G H hE hH D hR => by
  refine ws_step (ps_fld (pe_W (e := o)) (pe_W (e := value)) hs) ?_
  refine h.run W tk σ G H hE hH _ ?_ (ex_out hR hE)
  intro d M1 v G1 H1 ho s1 h1 dv
  refine ho.run W tk σ G1 H1 (hE.up s1.gg) h1 _ ?_ ((ex_out hR hE).step s1)
  rintro od M2 ov G2 H2 ⟨q, C, dx, fs, rfl, hm, hc, hn, hl, hw⟩ s2 h2 dov
  obtain ⟨vs, g1, g2, g3⟩ := h2.mem _ hm
  have hcell : MH X.K G2 (upd H2 q (.ins C dx (putF f v vs))) (q, .ins C dx (putD f d fs)) := by
    have ne : dx ≠ q := fun z => by rw [z, g1] at g2; cases g2
    exact ⟨_, upd_same, by rw [upd_ne ne]; exact g2, denF_put (dv.up s2.gg) g3⟩
  obtain ⟨s3, h3⟩ := put_ok (c' := .ins C dx (putD f d fs)) (H2 := upd H2 q (.ins C dx (putF f v vs))) h2 hm rfl (fun b hb => upd_ne hb) hcell
  exact ⟨q, C, dx, vs, dov.raw_inv, g1, hc, hn, by rw [g3.length]; exact hl, hw.run W tk σ G2 _ ((hE.up s1.gg).up s2.gg) h3 D (hR.step ((s1.trans s2).trans s3))⟩
/-! ### C(), C without __init__ -/
structure Mk0 (K : PySem.W.Frag) (C : Addr) : Prop where
  makes : PySem.W.makesIn K C = true
  init : PySem.W.findIn K (.ref C) "__init__" = some (some (.builtin "object.__init__"))
  kp : PySem.W.keepIn K (.ref C) = true
  top : PySem.W.mroIn K C (.type "object") = some true
theorem ex_new0 (Mk' : Mk0 X.K C) (hm : X.mg x = some (.ref C)) (h : ∀ q dx, q ∉ adr M → dx ∉ adr M → dx ≠ q → MadeP P q ((q, .ins C dx []) :: M)) (hg : Gl X x := by rfl) (hdb : (x == ("__debug__" : Str)) = false := by decide) :
    EX X T (.Call (.Name x p) [] [] pos) τ M P E := .mk fun W tk σ G H hE hH Q hP hX pins s k0 I => by
  refine wpAny_Call_Name_kw (ld_glob I hg hm ?_ hdb)
  refine PySem.W.callWith_K0 I.kIn Mk'.kp ?_
  have hx : H (s.heap.objs.size + 1) = none := I.hok.fresh (Nat.le_succ _)
  have hdx : H s.heap.objs.size = none := I.hok.fresh (Nat.le_refl _)
  have ne : s.heap.objs.size ≠ s.heap.objs.size + 1 := Nat.ne_of_lt (Nat.lt_succ_self _)
  have n1 : s.heap.objs.size + 1 ∉ adr M := fun z => hH.there _ z hx
  have n2 : s.heap.objs.size ∉ adr M := fun z => hH.there _ z hdx
  obtain ⟨h1, s1⟩ := hst_new (C := C) hH hx hdx ne
  have q := madeP_ce hP (h _ _ n1 n2 ne) s1 h1
  have I2 := Inv.made (C := C) I
  refine wpAny_call (make_map0 I.kIn Mk'.makes Mk'.init (fun self => PySem.W.Looks.of_pure (PySem.W.oi_bind self)) ?_)
  have hget : ((s.heap.push PySem.W.emptyDict).push (PySem.W.instObj C s.heap.objs.size)).get? (s.heap.objs.size + 1) = some (PySem.W.instObj C s.heap.objs.size) := by
    have := Heap.get?_push_size (s.heap.push PySem.W.emptyDict) (o := PySem.W.instObj C s.heap.objs.size) rfl
    rwa [Heap.size_push] at this
  have t1 : PySem.W.Looks (model X.prog X.w) ((s.heap.push PySem.W.emptyDict).push (PySem.W.instObj C s.heap.objs.size)) (typeOf (.ref (s.heap.objs.size + 1))) (.ref C) := (PySem.W.Looks.ld hget).andThen .now
  have t2 : PySem.W.Looks (model X.prog X.w) ((s.heap.push PySem.W.emptyDict).push (PySem.W.instObj C s.heap.objs.size)) (isInstance (.ref (s.heap.objs.size + 1)) (.type "object")) true := t1.andThen (PySem.W.looks_mroIn I2.kIn Mk'.top)
  refine codeAny_call_builtin PySem.W.oi_plain PySem.W.entry_oi (@PySem.W.check_slot (model X.prog X.w) _ _ _ "object.__init__" "object" "__init__" (.ref (s.heap.objs.size + 1)) [] [] _ PySem.W.oi_kind PySem.W.oi_split t2 (PySem.W.oi_args (.ref (s.heap.objs.size + 1))) ?_)
  rw [PySem.W.oi_run]
  exact wpAny_pure (And.intro rfl ⟨V.ref (s.heap.objs.size + 1), _, I2, rfl, q⟩)
/-! ### own == -/
/-- x == y, x an instance of the class at C with an own __eq__ at fa -/
theorem o_eqOwn {x y : Dat} {t : Value} (F : FnD X.prog X.w X.K X.mg X.base k fa fd ps S) (hr : Room k X.A) (hs : PySem.W.findIn X.K (.ref C) "__eq__" = some (some (.ref fa))) (hf : PySem.W.isFn X.K (.ref fa) = true) (hb : Binds X.K fd ps [])
    (hx : IsI C "__eq__" M x) (ty : TyD X.K M y t) (hn : PySem.W.notFirst X.K C t = true) (h : S [x, y] M (UpP fun d M2 => ∃ b, d = .bl b ∧ P (.bl b) M2) (UpP E0')) : OP X T (compareOp .Eq) x y M P := by
  intro G H v u hH dx dy Q hP pins s σ v' u' _ I rx ry
  obtain ⟨a, dxa, fs, rfl, ea, _⟩ := hx.get hH dx
  obtain rfl : v' = Value.ref a := rx
  obtain ⟨mA, J, _⟩ := ins_get I.hok ea
  obtain ⟨od, J, _⟩ := J.look
  obtain ⟨m, hF⟩ := I.fr
  obtain ⟨Pr, Z, pz, _⟩ := kit_of I ry (tyD_ok ty hH dy)
  have hsp : toSp X.K S [.ref a, u] H (fun z H' => ∃ b, z = .bl b ∧ Q (.bl b) H') (fun _ _ _ => False) :=
    ap_toSp (ap_all h) (.cons dx (.cons dy .nil)) hH (fun d M2 z G2 H2 ⟨b, ed, hp⟩ s2 h2 dz => by subst ed; exact ⟨b, dz.bl_inv, hP _ _ _ _ _ hp s2 h2 den_bl⟩) noX
  refine PySem.W.cmp_K (op := .Eq) (tb := t) hr.units0 hF I.ok.mod.kin J (Z.ty _ _ I.kIn pz) hn hs hf ?_
  refine wpAny_mono (run_d (dsv := []) (dvs := []) (W := fun _ _ _ _ => False) (us := [.ref a, u']) (vs := [.ref a, u]) F hr hb .nil takes0 I (.cons rfl (.cons ry .nil)) (by rw [List.append_nil]; exact hsp)) (fun r s' q => ?_) fun _ _ z => z
  obtain ⟨z, H', I', rz, b, ez, q⟩ := q
  subst ez
  cases rz
  exact ⟨.bl b, H', I', rfl, q⟩
end
/-! ### defs with defaults -/
structure FunV (K : PySem.W.Frag) (x qual : Str) (st : Stmt) (f : Addr) (fd : FuncData) : Prop where
  ex : ∃ (oc : Value) (od : Option Addr) (dV kV doc pm : Value) (an : Option Addr) (cdv ct : Value) (osl : Array (Option Value)),
    fd = PySem.W.fnOf x qual (defArgs st) (defBody st) (defScope st) dV kV doc pm an cdv ct ∧ K.lookup f = some ⟨oc, od, .func fd, osl⟩ ∧ PySem.W.codeIn K cdv qual = true
  kp : PySem.W.keepIn K (.ref f) = true
theorem fn_dV {P : Program} {w : World} {K : PySem.W.Frag} {mg : Str → Option Value} {base : Heap} {x qual : Str} {st : Stmt} {f : Addr} {fd : FuncData} {N ps : List Str} {k : Nat} {S : Spc} (T : Bool) (F : FunV K x qual st f fd) (Sc : FnScope N ps (defScope st)) (hT : T = true → ∃ x ∈ ps, (defScope st).names.lookup x = some .local) (len : ∀ ds M P E, S ds M P E → ds.length = ps.length)
    (body : ∀ (cdv : Value) (A : Around) (outer : List Env) (s : Shared) (H : Hp) (E : XK), Room k (A.deeper (PyProof.Rows.envOfC qual (defScope st) s.heap.objs.size f cdv)) → ∀ ds M Pd PE, S ds M Pd PE →
      WS (cxOf (L2.CX P w) P w K mg base N qual (defScope st) f cdv A outer s H E) T (defBody st) (startT N ds) M (retR Pd PE)) : FnD P w K mg base (k + 1) f fd ps S := by
  obtain ⟨oc, od, dV, kV, doc, pm, an, cdv, ct, osl, rfl, lk, hcd⟩ := F.ex
  refine fn_w (T := T) lk hcd Sc hT (fun vs H Q E h => ?_) (fun A outer s H vs Q E hr h => ?_)
  · obtain ⟨G, ds, M, Pd, PE, dv, _, hs, _⟩ := h
    rw [dv.length]; exact len _ _ _ _ hs
  · obtain ⟨G, ds, M, Pd, PE, dv, hH, hs, hP, hX⟩ := h
    exact (body cdv A outer s H E hr ds M Pd PE hs).run _ (takes_of rfl rfl rfl rfl) _ G H (denE_start dv) hH _ (cs_ret hP fun x M2 G2 H2 d p s h dx σ => hX x M2 G2 H2 d p s h dx)
/-! ### isinstance between classes -/
section
variable {K : PySem.W.Frag} {C D : Addr} {b : Bool}
theorem kit_ty {T : String} (h : PySem.W.subIn K (.ref C) (.type T) = some b) (hm : PySem.W.kitMeta T = true := by rfl) : PySem.W.kitOne K (.ref C) (.type T) = some b := by
  show (if (Value.ref C == Value.type T) = true then some true else if PySem.W.kitMeta T = true then PySem.W.subIn K (.ref C) (.type T) else none) = some b
  rw [if_neg (by simp), if_pos hm]
  exact h
theorem kit_self {t : Value} : PySem.W.kitOne K t t = some true := by
  unfold PySem.W.kitOne
  rw [if_pos (by simp)]
theorem kit_rr (h2 : PySem.W.isClsIn K D = true) (h3 : PySem.W.typeIn K (.ref D) = some (.type "type")) (h : PySem.W.subIn K (.ref C) (.ref D) = some b) (hs : C = D → b = true) : PySem.W.kitOne K (.ref C) (.ref D) = some b := by
  by_cases e : C = D
  · subst e; rw [hs rfl]; exact kit_self
  · have e2 : ((PySem.W.clsIn K D).isSome && PySem.W.typeIn K (.ref D) == some (.type "type")) = true := by
      have h2' : (PySem.W.clsIn K D).isSome = true := h2
      rw [h2', h3] <;> rfl
    show (if (Value.ref C == Value.ref D) = true then some true else if ((PySem.W.clsIn K D).isSome && PySem.W.typeIn K (.ref D) == some (.type "type")) = true then PySem.W.subIn K (.ref C) (.ref D) else none) = some b
    rw [if_neg (by simpa using e), if_pos e2]
    exact h
theorem kit_rr2 (h2 : PySem.W.isClsIn K D = true) (h3 : PySem.W.typeIn K (.ref D) = some (.type "type")) (hself : PySem.W.mroIn K C (.ref C) = some true) (h : PySem.W.subIn K (.ref C) (.ref D) = some b) : PySem.W.kitOne K (.ref C) (.ref D) = some b := kit_rr h2 h3 h fun e => by
  subst e
  have z : PySem.W.subIn K (.ref C) (.ref C) = some true := hself
  rw [z] at h
  exact (Option.some.inj h).symm
theorem kit_tr {T : String} (h2 : PySem.W.isClsIn K D = true) (h3 : PySem.W.typeIn K (.ref D) = some (.type "type")) (h : PySem.W.subIn K (.type T) (.ref D) = some false) : PySem.W.kitOne K (.type T) (.ref D) = some false := by
  have e2 : ((PySem.W.clsIn K D).isSome && PySem.W.typeIn K (.ref D) == some (.type "type")) = true := by
    have h2' : (PySem.W.clsIn K D).isSome = true := h2
    rw [h2', h3] <;> rfl
  show (if (Value.type T == Value.ref D) = true then some true else if ((PySem.W.clsIn K D).isSome && PySem.W.typeIn K (.ref D) == some (.type "type")) = true then PySem.W.subIn K (.type T) (.ref D) else none) = some false
  rw [if_neg (by simp), if_pos e2]
  exact h
end
section
variable {X : Cx} {T : Bool} {τ : TEnv} {M : Mem} {P : PK'} {E : XKx} {e : Expr}
/-- an object of the heap, told with its place -/
def isR : Dat → Bool
  | .dic0 | .lst _ | .tup _ | .obj _ _ _ => true
  | _ => false
theorem den_isR {K : PySem.W.Frag} {G : Hp} {d : Dat} {v : V} (h : isR d = true) (dv : Den K G d v) : ∃ a, v = .ref a := by
  cases d with
  | dic0 => obtain ⟨a, rfl, _⟩ := dv.dic0_inv; exact ⟨a, rfl⟩
  | lst xs => obtain ⟨a, _, rfl, _⟩ := dv.lst_inv; exact ⟨a, rfl⟩
  | tup xs => obtain ⟨a, _, rfl, _⟩ := dv.tup_inv; exact ⟨a, rfl⟩
  | obj C ns xs => obtain ⟨a, _, _, rfl, _⟩ := dv.obj_inv; exact ⟨a, rfl⟩
  | _ => cases h
theorem ex_tag (h : EX X T e τ M (fun d M1 => isR d = true ∧ ∀ a, P (.at a d) M1) E) : EX X T e τ M P E := .mk fun W tk σ G H hE hH Q hP hX =>
  h.run W tk σ G H hE hH Q (fun d M2 v G2 H2 ⟨hr, hp⟩ s h2 dv => by
    obtain ⟨a, rfl⟩ := den_isR hr dv
    exact hP _ _ _ _ _ (hp a) s h2 (den_at dv)) hX
end
theorem kint_ato {K : PySem.W.Frag} {C a : Addr} {ns : List Str} {ds : List Dat} (h : ICls K C) (hk : PySem.W.subIn K (.ref C) (.type "int") = some false) : KInt K (.at a (.obj C ns ds)) := fun M => ⟨_, .at (.obj h), kit_ty hk, fun h => nomatch h⟩
theorem c_bool_b {X : Cx} {M : Mem} {P : PK'} {k : Bool} (h : P (.bl k) M) : BC X (.type "bool") [.bl k] M P := bc_of call_bool1 fun G H vs hH dv Q hP => by
  obtain ⟨v, rfl, d⟩ := one_inv dv
  exact .inr ⟨k, by rw [d.bl_inv], hP _ _ _ _ _ h Stp.refl hH den_bl⟩
theorem atI_nat {α : Type} {xs : List α} {k : Nat} {x : α} (h : xs[k]? = some x) : atI xs (k : Int) = some x := by
  have hk : k < xs.length := (List.getElem?_eq_some_iff.mp h).1
  have e : ixN xs.length (k : Int) = some k := by
    unfold ixN
    simp [hk]
  unfold atI
  rw [e]; exact h
end Kh

set_option Elab.async false
set_option linter.all false
set_option maxRecDepth 100000
set_option maxHeartbeats 1000000
namespace Kh
open PySem PySem.Spec L2

/-! ### what a def computes, as a plain function: a value, an error, or out of what is told -/
inductive EK where
  | file | number | script | list | write | history | content | text | busy | closed
  deriving DecidableEq
/-- which own class -/
inductive OK where
  | file | full | keep | lean | dig | script
  deriving DecidableEq
/-- a value of any kind; tag: the very object at an address -/
inductive Any where
  | non | bl (b : Bool) | int (i : Int) | str (s : Str) | lst (xs : List Any) | tup (xs : List Any) | dic | obj (k : OK) (fs : List Any) | tag (q : Addr) (x : Any) | cel (q : Addr)
mutual
def anyD (cl : OK → Addr × List Str) : Any → Dat
  | .non => .non
  | .bl b => .bl b
  | .int i => .int i
  | .str s => .str s
  | .lst xs => .lst (anyDL cl xs)
  | .tup xs => .tup (anyDL cl xs)
  | .dic => .dic0
  | .obj k fs => .obj (cl k).1 (cl k).2 (anyDL cl fs)
  | .tag q x => .at q (anyD cl x)
  | .cel q => .raw (.ref q)
def anyDL (cl : OK → Addr × List Str) : List Any → List Dat
  | [] => []
  | x :: xs => anyD cl x :: anyDL cl xs
end
theorem anyDL_map {cl : OK → Addr × List Str} : ∀ {xs : List Any}, anyDL cl xs = xs.map (anyD cl)
  | [] => by simp [anyDL]
  | x :: xs => by simp [anyDL, anyDL_map (xs := xs)]
structure Er where
  k : EK
  v : Any
inductive Res (α : Type) where
  | ok (a : α) | err (x : Er) | bad
  /-- whatever address is given out -/
  | all (f : Addr → Res α)
/-- how a turn of a loop ends -/
inductive Ctl (σ ρ : Type) where
  | nx (s : σ) | bk (s : σ) | rt (r : ρ)
namespace Res
def bind {α β : Type} : Res α → (α → Res β) → Res β
  | .ok a, k => k a
  | .err x, _ => .err x
  | .bad, _ => .bad
  | .all f, k => .all fun q => (f q).bind k
def Out {α : Type} : Res α → (α → Prop) → (Er → Prop) → Prop
  | .ok a, P, _ => P a
  | .err x, _, E => E x
  | .bad, _, _ => False
  | .all f, P, E => ∀ q, (f q).Out P E
/-- where nothing may be raised -/
def ne {α : Type} : Res α → Res α
  | .ok a => .ok a
  | .all f => .all fun q => (f q).ne
  | _ => .bad
end Res
section
variable {α β σ ρ : Type}
@[simp] theorem bind_ok {a : α} {k : α → Res β} : (Res.ok a).bind k = k a := rfl
@[simp] theorem bind_err {x : Er} {k : α → Res β} : (Res.err x).bind k = .err x := rfl
@[simp] theorem bind_bad {k : α → Res β} : (Res.bad).bind k = .bad := rfl
@[simp] theorem ne_ok {a : α} : (Res.ok a).ne = .ok a := rfl
@[simp] theorem bind_all {f : Addr → Res α} {k : α → Res β} : (Res.all f).bind k = .all fun q => (f q).bind k := rfl
theorem bind_bind {γ : Type} {k : α → Res β} {l : β → Res γ} : ∀ {m : Res α}, (m.bind k).bind l = m.bind fun a => (k a).bind l
  | .ok _ => rfl
  | .err _ => rfl
  | .bad => rfl
  | .all f => by
    show Res.all (fun q => ((f q).bind k).bind l) = Res.all fun q => (f q).bind fun a => (k a).bind l
    congr 1; funext q; exact bind_bind
theorem ob {k : α → Res β} {P : β → Prop} {E : Er → Prop} : ∀ {m : Res α}, (m.bind k).Out P E → m.Out (fun a => (k a).Out P E) E
  | .ok _, h => h
  | .err _, h => h
  | .bad, h => h
  | .all f, h => fun q => ob (m := f q) (h q)
theorem out_mono {P P' : α → Prop} {E E' : Er → Prop} : ∀ {m : Res α}, m.Out P E → (∀ a, P a → P' a) → (∀ x, E x → E' x) → m.Out P' E'
  | .ok _, h, hp, _ => hp _ h
  | .err _, h, _, he => he _ h
  | .bad, h, _, _ => h
  | .all f, h, hp, he => fun q => out_mono (m := f q) (h q) hp he
theorem ne_out {P : α → Prop} {E E' : Er → Prop} : ∀ {m : Res α}, m.ne.Out P E → m.Out P E'
  | .ok _, h => h
  | .err _, h => h.elim
  | .bad, h => h
  | .all f, h => fun q => ne_out (m := f q) (h q)
theorem out_ok {m : Res α} {a : α} {P : α → Prop} {E : Er → Prop} (e : m = .ok a) (h : P a) : m.Out P E := by rw [e]; exact h
theorem cif {c : Bool} {A B : Res α} {P : α → Prop} {E : Er → Prop} (h : (cond c A B).Out P E) {X Y : Prop} (a : A.Out P E → X) (b : B.Out P E → Y) : (c = true → X) ∧ (c = false → Y) := by
  cases c with
  | true => exact ⟨fun _ => a h, fun z => nomatch z⟩
  | false => exact ⟨(fun z => nomatch z), fun _ => b h⟩
/-- a condition that must hold -/
@[irreducible] def guard (c : Prop) [Decidable c] (a : α) : Res α := if c then .ok a else .bad
theorem gd {c : Prop} [Decidable c] {a : α} {P : α → Prop} {E : Er → Prop} (h : (guard c a).Out P E) : c ∧ P a := by
  unfold guard at h
  split at h
  · exact ⟨‹_›, h⟩
  · exact h.elim
theorem guard_ok {c : Prop} [Decidable c] {a : α} (h : c) : guard c a = .ok a := by unfold guard; exact if_pos h
/-! loops -/
def Ctl.go (k : σ → Res (Ctl σ ρ)) : Ctl σ ρ → Res (Ctl σ ρ)
  | .nx s => k s
  | .bk s => .ok (.nx s)
  | .rt r => .ok (.rt r)
def Ctl.fin (k : σ → Res β) (r : ρ → Res β) : Ctl σ ρ → Res β
  | .nx s => k s
  | .bk s => k s
  | .rt x => r x
def forR (f : σ → α → Res (Ctl σ ρ)) : List α → σ → Res (Ctl σ ρ)
  | [], s => .ok (.nx s)
  | x :: xs, s => (f s x).bind (Ctl.go (forR f xs))
def foldR (f : σ → α → Res σ) : List α → σ → Res σ
  | [], s => .ok s
  | x :: xs, s => (f s x).bind (foldR f xs)
@[simp] theorem foldR_nil {f : σ → α → Res σ} {s : σ} : foldR f [] s = .ok s := rfl
@[simp] theorem foldR_cons {f : σ → α → Res σ} {s : σ} {x : α} {xs : List α} : foldR f (x :: xs) s = (f s x).bind (foldR f xs) := rfl
@[simp] theorem forR_nil {f : σ → α → Res (Ctl σ ρ)} {s : σ} : forR f [] s = .ok (.nx s) := rfl
@[simp] theorem forR_cons {f : σ → α → Res (Ctl σ ρ)} {s : σ} {x : α} {xs : List α} : forR f (x :: xs) s = (f s x).bind (Ctl.go (forR f xs)) := rfl
@[simp] theorem go_nx {k : σ → Res (Ctl σ ρ)} {s : σ} : Ctl.go k (.nx s) = k s := rfl
@[simp] theorem go_bk {k : σ → Res (Ctl σ ρ)} {s : σ} : Ctl.go k (.bk s) = .ok (.nx s) := rfl
@[simp] theorem go_rt {k : σ → Res (Ctl σ ρ)} {r : ρ} : Ctl.go k (.rt r) = .ok (.rt r) := rfl
@[simp] theorem fin_nx {k : σ → Res β} {r : ρ → Res β} {s : σ} : Ctl.fin k r (.nx s) = k s := rfl
@[simp] theorem fin_bk {k : σ → Res β} {r : ρ → Res β} {s : σ} : Ctl.fin k r (.bk s) = k s := rfl
@[simp] theorem fin_rt {k : σ → Res β} {r : ρ → Res β} {x : ρ} : Ctl.fin k r (.rt x) = r x := rfl
def compL (f : α → Res (Option β)) : List α → Res (List β)
  | [] => .ok []
  | x :: xs => (f x).bind fun o => (compL f xs).bind fun r => .ok (o.toList ++ r)
def compR (f : α → Res (Option β)) (xs : List α) : Res (List β) := if xs.length ≤ sizeLine then (compL f xs).ne else .bad
/-- with a state -/
def compSL (f : σ → α → Res (Option β × σ)) : List α → σ → Res (List β × σ)
  | [], s => .ok ([], s)
  | x :: xs, s => (f s x).bind fun o => (compSL f xs o.2).bind fun r => .ok (o.1.toList ++ r.1, r.2)
def compS (f : σ → α → Res (Option β × σ)) (xs : List α) (s : σ) : Res (List β × σ) := if xs.length ≤ sizeLine then (compSL f xs s).ne else .bad
def andR (a b : Res Bool) : Res Bool := a.bind fun t => cond t b (.ok false)
def orR (a b : Res Bool) : Res Bool := a.bind fun t => cond t (.ok true) b
def notR (a : Res Bool) : Res Bool := a.bind fun t => .ok (!t)
@[simp] theorem andR_ok {a : Bool} {b : Res Bool} : andR (.ok a) b = cond a b (.ok false) := rfl
@[simp] theorem orR_ok {a : Bool} {b : Res Bool} : orR (.ok a) b = cond a (.ok true) b := rfl
@[simp] theorem notR_ok {a : Bool} : notR (.ok a) = .ok (!a) := rfl
@[simp] theorem cond_ok {c : Bool} {a b : α} : (cond c (Res.ok a) (.ok b)) = .ok (cond c a b) := by cases c <;> rfl
end

/-! ### values of types -/
abbrev lstD {α : Type} (e : α → Dat) (xs : List α) : Dat := .lst (xs.map e)
abbrev vtpD {α : Type} (e : α → Dat) (xs : List α) : Dat := .tup (xs.map e)
abbrev pairD {α β : Type} (e : α → Dat) (f : β → Dat) (p : α × β) : Dat := .tup [e p.1, f p.2]
abbrev tripD {α β γ : Type} (e : α → Dat) (f : β → Dat) (g : γ → Dat) (p : α × β × γ) : Dat := .tup [e p.1, f p.2.1, g p.2.2]
abbrev optD {α : Type} (e : α → Dat) : Option α → Dat
  | none => .non
  | some x => e x
abbrev untD (_ : Unit) : Dat := .non
/-- a sign as a text -/
abbrev chS (c : Nat) : Str := ⟨#[c]⟩
abbrev chD (c : Nat) : Dat := .str (chS c)
abbrev signsL (z : Str) : List Nat := z.cps.toList
def rangeL (lo : Int) (n : Nat) : List Int := (List.range n).map fun (i : Nat) => lo + (i : Int)
def rangeC (lo c : Int) (n : Nat) : List Int := (List.range n).map fun (i : Nat) => lo + (i : Int) * c
def enumL {α : Type} (xs : List α) : List (Int × α) := xs.zipIdx.map fun q => ((q.2 : Int), q.1)
theorem rngD_map {lo : Int} {n : Nat} : rngD lo n = (rangeL lo n).map Dat.int := by simp [rngD, rangeL]
theorem rngC_map {lo c : Int} {n : Nat} : rngC lo c n = (rangeC lo c n).map Dat.int := by simp [rngC, rangeC]
theorem enuD_map {α : Type} {e : α → Dat} {xs : List α} : enuD (xs.map e) = (enumL xs).map (pairD Dat.int e) := by
  simp [enuD, enumL, List.zipIdx_map, Function.comp_def]
/-! ### operations that want something -/
def small62 (j : Int) : Prop := -(2 ^ 62) ≤ j ∧ j < 2 ^ 62
instance {j : Int} : Decidable (small62 j) := inferInstanceAs (Decidable (_ ∧ _))
def pdiv (i j : Int) : Res Int := guard (0 < j ∧ j.natAbs.log2 < 9000) (i / j)
def pmod (i j : Int) : Res Int := guard (0 < j) (i % j)
def pmul (i j : Int) : Res Int := guard (i.natAbs.log2 + j.natAbs.log2 < 1000000) (i * j)
def pcat (a b : Str) : Res Str := guard (a.length + b.length ≤ sizeLine) (a ++ b)
def pcatL {α : Type} (a b : List α) : Res (List α) := guard (a.length + b.length ≤ sizeLine) (a ++ b)
def prepS (z : Str) (n : Int) : Res Str := guard ((-(2 ^ 63) ≤ n ∧ n < 2 ^ 63) ∧ z.length * n.toNat ≤ sizeLine) (repS z n)
def prepL {α : Type} (xs : List α) (n : Int) : Res (List α) := guard ((-(2 ^ 63) ≤ n ∧ n < 2 ^ 63) ∧ xs.length * n.toNat ≤ sizeLine) (List.replicate n.toNat xs).flatten
def pix {α : Type} (xs : List α) (i : Int) : Res α := match atI xs i with | some x => .ok x | none => .bad
def pixS (z : Str) (i : Int) : Res Nat := if z.length ≤ sizeLine then pix (signsL z) i else .bad
def pslS (z : Str) (lo hi : Option Int) : Res Str := guard (z.length ≤ sizeLine) (cutS z lo hi)
def plenS (z : Str) : Res Int := guard (z.length ≤ sizeLine) (z.length : Int)
def papp {α : Type} (xs : List α) (x : α) : Res (List α) := guard (xs.length < sizeLine) (xs ++ [x])
def prng1 (j : Int) : Res (List Int) := guard (small62 j) (rangeL 0 j.toNat)
def prng2 (i j : Int) : Res (List Int) := guard (small62 i ∧ small62 j) (rangeL i (j - i).toNat)
/-- a range upwards by a step -/
def prng3 (i j c : Int) : Res (List Int) := guard (small62 i ∧ small62 j ∧ 0 < c ∧ c < 1073741824) (rangeC i c ((j - i + c - 1) / c).toNat)
def pset {α : Type} (xs : List α) (i : Int) (x : α) : Res (List α) := match ixN xs.length i with | some j => .ok (xs.set j x) | none => .bad

section
variable {X : Cx} {T : Bool} {τ : TEnv} {M A B : Mem} {P : PK'} {E : XKx} {e a b c o : Expr} {es : List Expr} {pos p apos tpos : Pos} {α β σ ρ : Type} {E1 : Er → Prop} {q : Addr}
theorem r_div {i j : Int} {Q : Int → Prop} (h : (pdiv i j).Out Q E1) (hk : ∀ z, Q z → P (.int z) M) : OP X T (binaryOp .FloorDiv) (.int i) (.int j) M P := o_div (gd h).1 (hk _ (gd h).2)
theorem r_mod {i j : Int} {Q : Int → Prop} (h : (pmod i j).Out Q E1) (hk : ∀ z, Q z → P (.int z) M) : OP X T (binaryOp .Mod) (.int i) (.int j) M P := o_mod (gd h).1 (hk _ (gd h).2)
theorem r_mul {i j : Int} {Q : Int → Prop} (h : (pmul i j).Out Q E1) (hk : ∀ z, Q z → P (.int z) M) : OP X T (binaryOp .Mult) (.int i) (.int j) M P := o_mul (gd h).1 (hk _ (gd h).2)
theorem r_cat {i j : Str} {Q : Str → Prop} (h : (pcat i j).Out Q E1) (hk : ∀ z, Q z → P (.str z) M) : OP X T (binaryOp .Add) (.str i) (.str j) M P := o_cat (gd h).1 (hk _ (gd h).2)
theorem r_catL (f : α → Dat) {xs ys : List α} {Q : List α → Prop} (h : (pcatL xs ys).Out Q E1) (hk : ∀ z, Q z → P (lstD f z) M) : OP X T (binaryOp .Add) (lstD f xs) (lstD f ys) M P :=
  o_catL (by rw [List.length_map, List.length_map]; exact (gd h).1) (by rw [← List.map_append]; exact hk _ (gd h).2)
theorem r_repS {z : Str} {n : Int} {Q : Str → Prop} (h : (prepS z n).Out Q E1) (hk : ∀ z, Q z → P (.str z) M) : OP X T (binaryOp .Mult) (.str z) (.int n) M P := o_repS (gd h).1.1 (gd h).1.2 (hk _ (gd h).2)
theorem r_repL (f : α → Dat) {xs : List α} {n : Int} {Q : List α → Prop} (h : (prepL xs n).Out Q E1) (hk : ∀ z, Q z → P (lstD f z) M) : OP X T (binaryOp .Mult) (lstD f xs) (.int n) M P :=
  o_repL (gd h).1.1 (by rw [List.length_map]; exact (gd h).1.2) (by rw [← List.map_replicate, ← List.map_flatten]; exact hk _ (gd h).2)
theorem pix_out {xs : List α} {i : Int} {Q : α → Prop} (h : (pix xs i).Out Q E1) : ∃ x, atI xs i = some x ∧ Q x := by
  unfold pix at h
  cases e : atI xs i with
  | some x => rw [e] at h; exact ⟨x, rfl, h⟩
  | none => rw [e] at h; exact h.elim
theorem atI_map {f : α → β} {xs : List α} {i : Int} {x : α} (h : atI xs i = some x) : atI (xs.map f) i = some (f x) := by
  unfold atI at h ⊢
  rw [List.length_map]
  cases e : ixN xs.length i with
  | none => rw [e] at h; cases h
  | some j => rw [e] at h; simp only [Option.bind_some] at h ⊢; rw [List.getElem?_map, h]; rfl
theorem r_ix {K : PySem.W.Frag} (f : α → Dat) {xs : List α} {i : Int} {Q : α → Prop} (h : (pix xs i).Out Q E1) (hk : ∀ z, Q z → P (f z) M) : IQ K (lstD f xs) (.int i) M P :=
  let ⟨x, h1, h2⟩ := pix_out h; i_lst (atI_map h1) (hk x h2)
theorem r_ixT {K : PySem.W.Frag} (f : α → Dat) {xs : List α} {i : Int} {Q : α → Prop} (h : (pix xs i).Out Q E1) (hk : ∀ z, Q z → P (f z) M) : IQ K (vtpD f xs) (.int i) M P :=
  let ⟨x, h1, h2⟩ := pix_out h; i_tup (atI_map h1) (hk x h2)
theorem r_ixScr {K : PySem.W.Frag} {xs : List Int} {i : Int} {Q : Int → Prop} (h : (pix xs i).Out Q E1) (hk : ∀ z, Q z → P (.int z) M) : IQ K (.scr xs) (.int i) M P :=
  let ⟨x, h1, h2⟩ := pix_out h; i_scr h1 (hk x h2)
/-- in a cell behind the cells A -/
theorem r_ixC {K : PySem.W.Frag} (A : Mem) (f : α → Dat) {xs : List α} {i : Int} {Q : α → Prop} (h : (pix xs i).Out Q E1) (hk : ∀ z, Q z → P (f z) (A ++ (q, .lst (xs.map f)) :: B)) : IQ K (.raw (.ref q)) (.int i) (A ++ (q, .lst (xs.map f)) :: B) P :=
  let ⟨x, h1, h2⟩ := pix_out h; i_cell (List.mem_append_right _ List.mem_cons_self) (atI_map h1) (hk x h2)
theorem r_ixS {K : PySem.W.Frag} {z : Str} {i : Int} {Q : Nat → Prop} (h : (pixS z i).Out Q E1) (hk : ∀ c, Q c → P (chD c) M) : IQ K (.str z) (.int i) M P := by
  unfold pixS at h
  split at h
  · obtain ⟨x, h1, h2⟩ := pix_out h
    exact i_str ‹_› h1 (hk x h2)
  · exact h.elim
theorem r_slS {z : Str} {lo hi : Option Int} {Q : Str → Prop} (h : (pslS z lo hi).Out Q E1) (hk : ∀ z, Q z → P (.str z) M) : SQ X (.str z) lo hi M P := l_str (gd h).1 (hk _ (gd h).2)
theorem cutD_map {f : α → β} {xs : List α} {lo hi : Option Int} : cutD (xs.map f) lo hi = (cutD xs lo hi).map f := by
  unfold cutD; rw [List.length_map, List.map_take, List.map_drop]
theorem l_lstT (f : α → Dat) {xs : List α} {lo hi : Option Int} (h : P (lstD f (cutD xs lo hi)) M) : SQ X (lstD f xs) lo hi M P := l_lst (by rw [cutD_map]; exact h)
theorem l_scrT {xs : List Int} {lo hi : Option Int} (h : P (lstD Dat.int (cutD xs lo hi)) M) : SQ X (.scr xs) lo hi M P := l_scr h
theorem c_lenT (f : α → Dat) {xs : List α} (h : P (.int xs.length) M) : BC X (.builtin "len") [lstD f xs] M P := c_len_lst (by rw [List.length_map]; exact h)
theorem c_lenV (f : α → Dat) {xs : List α} (h : P (.int xs.length) M) : BC X (.builtin "len") [vtpD f xs] M P := c_len_tup (by rw [List.length_map]; exact h)
theorem c_lenC (A : Mem) (f : α → Dat) {xs : List α} (h : P (.int xs.length) (A ++ (q, .lst (xs.map f)) :: B)) : BC X (.builtin "len") [.raw (.ref q)] (A ++ (q, .lst (xs.map f)) :: B) P :=
  c_len_cell (List.mem_append_right _ List.mem_cons_self) (by rw [List.length_map]; exact h)
theorem r_lenS {z : Str} {Q : Int → Prop} (h : (plenS z).Out Q E1) (hk : ∀ z, Q z → P (.int z) M) : BC X (.builtin "len") [.str z] M P := c_len_str (gd h).1 (hk _ (gd h).2)
theorem c_minT {i j : Int} (h : P (.int (min i j)) M) (hc : X.calm = true := by rfl) : BC X (.builtin "min") [.int i, .int j] M P := c_min hc (by
  have e : (if j < i then j else i) = min i j := by omega
  rw [e]; exact h)
theorem c_maxT {i j : Int} (h : P (.int (max i j)) M) (hc : X.calm = true := by rfl) : BC X (.builtin "max") [.int i, .int j] M P := c_max hc (by
  have e : (if j > i then j else i) = max i j := by omega
  rw [e]; exact h)
theorem c_sumT {ns : List Int} (h : P (.int ns.sum) M) (hc : X.calm = true := by rfl) : BC X (.builtin "sum") [lstD Dat.int ns] M P := c_sum hc rfl h
theorem c_listT (f : α → Dat) {xs : List α} (h : P (lstD f xs) M) : BC X (.type "list") [lstD f xs] M P := c_list_lst h
theorem c_listV (f : α → Dat) {xs : List α} (h : P (lstD f xs) M) : BC X (.type "list") [vtpD f xs] M P := c_list_tup h
theorem c_tupT (f : α → Dat) {xs : List α} (h : P (vtpD f xs) M) : BC X (.type "tuple") [lstD f xs] M P := c_tuple_lst h
theorem hst_put {K : PySem.W.Frag} {G H H2 : Hp} {c' : MC} {c : MC} (h : Hst K G (A ++ (q, c) :: B) H) (hc : adr1 (q, c) = adr1 (q, c')) (hk : ∀ b, b ≠ q → H2 b = H b) (hn : MH K G H2 (q, c')) :
    Stp G (A ++ (q, c) :: B) H G (A ++ (q, c') :: B) H2 ∧ Hst K G (A ++ (q, c') :: B) H2 := cell_put h hc (by cases c <;> simp [adr1]) hk hn
theorem b_app (A : Mem) (f : α → Dat) {xs : List α} {x : α} {Q : List α → Prop} (h : (papp xs x).Out Q E1) (hk : ∀ ys, Q ys → P .non (A ++ (q, .lst (ys.map f)) :: B)) : BMr X "list.append" (.raw (.ref q)) [f x] (A ++ (q, .lst (xs.map f)) :: B) P := by
  obtain ⟨hl, hq⟩ := gd h
  refine ⟨rAppend, mt_append, fun G H v vs hH dv dvs Q hP => ?_⟩
  obtain ⟨u, r, rfl, du, t⟩ := dvs.cons_inv
  obtain rfl := t.nil_inv
  obtain ⟨ys, g, dx⟩ := hH.mem _ (List.mem_append_right _ List.mem_cons_self)
  rw [dv.raw_inv]
  obtain ⟨s2, h2⟩ := hst_put (c' := .lst ((xs ++ [x]).map f)) (H2 := upd H q (.lst (ys ++ [u]))) hH rfl (fun b hb => upd_ne hb) ⟨_, upd_same, by rw [List.map_append]; exact dx.snoc du⟩
  exact ⟨q, ys, u, rfl, rfl, g, by rw [dx.length, List.length_map]; exact hl, hP _ _ _ _ _ (hk _ hq) s2 h2 den_non⟩
theorem r_app (A : Mem) (f : α → Dat) {xs : List α} (h : EX X T o τ M (fun d M1 => d = .raw (.ref q) ∧ M1 = A ++ (q, .lst (xs.map f)) :: B ∧ EA X T (e :: es) τ M1 (fun ds M2 => BMr X "list.append" d ds M2 P) E) E)
    (hbase : attributeBase o "append" X.env (eval o X.env) = eval o X.env := by rfl)
    (hfew : ((backTo tpos (starEach (e :: es) X.env)).all (fun x => !x.1) && (backToKw tpos (keywordEach [] X.env)).all (fun x => x.1.isSome) && decide ((e :: es).length + ([] : List Keyword).length + (if ([] : List Keyword).isEmpty then 0 else 1) < 30)) = true := by rfl)
    (hline : (apos.endLine == tpos.line) = true := by rfl) (hs : starEach (e :: es) X.env = (false, eval e X.env) :: starEach es X.env := by rfl) (hplain : (backTo tpos (starEach es X.env)).any (·.1) = false := by rfl) :
    EX X T (.Call (.Attribute o "append" apos) (e :: es) [] tpos) τ M P E := ex_append (h.imp (fun d M1 ⟨e1, e2, e3⟩ => ⟨by rw [e1, e2]; exact .cell (List.mem_append_right _ List.mem_cons_self), e3⟩) fun _ _ x => x) hbase hfew hline hs hplain
/-! calls -/
theorem outU {m : Res α} {f : α → Dat} {ex : Er → Exn} {Q : α → Prop} (h : m.Out Q E1) (hk : ∀ r, Q r → P (f r) M) (hx : ∀ x, E1 x → E (ex x) M) : m.Out (fun r => UpP P (f r) M) (fun x => UpP E (ex x) M) :=
  out_mono h (fun r q => UpP.mk (hk r q)) fun x q => UpP.mk (hx x q)
/-- a test as a value of a def -/
theorem outB {m : Res Bool} {ex : Er → Exn} {Q : Bool → Prop} {Pb : Bool → Prop} (h : m.Out Q E1) (hk : ∀ r, Q r → Pb r) (hx : ∀ x, E1 x → E (ex x) M) : m.Out (fun r => UpP (fun (d : Dat) (_ : Mem) => ∃ k, d = Dat.bl k ∧ Pb k) (Dat.bl r) M) (fun x => UpP E (ex x) M) :=
  out_mono h (fun r q => UpP.mk ⟨r, rfl, hk r q⟩) fun x q => UpP.mk (hx x q)
theorem outN {m : Res α} {f : α → Dat} {Q : α → Prop} (h : m.Out Q E1) (hk : ∀ r, Q r → P (f r) M) (hx : ∀ x, E1 x → False) {ex : Er → Exn} : m.Out (fun r => UpP P (f r) M) (fun x => UpP E (ex x) M) :=
  out_mono h (fun r q => UpP.mk (hk r q)) fun x q => (hx x q).elim
end

/-! ### a def's ends: what it made itself is left behind -/
def retD (P : PK') (E : XKx) : RK
  | .rt d, M => ∃ A B, M.Perm (A ++ B) ∧ P d A
  | .nx _, M => ∃ A B, M.Perm (A ++ B) ∧ P .non A
  | .ex x _, M => ∃ A B, M.Perm (A ++ B) ∧ E x A
  | _, _ => False
theorem csD {K : PySem.W.Frag} {G H : Hp} {M : Mem} {P : PK'} {E : XKx} {D : Ends} {W : WX} (h : CS' K G M H (retR P E) D W) : CS' K G M H (retD P E) D W := fun o M2 G2 H2 r s h2 => by
  cases o with
  | nx τ => obtain ⟨A, B, pm, r⟩ := r; exact h (.nx τ) A G2 H2 r (s.perm (List.Perm.refl _) pm).drop (h2.perm pm).drop
  | rt d => obtain ⟨A, B, pm, r⟩ := r; exact h (.rt d) A G2 H2 r (s.perm (List.Perm.refl _) pm).drop (h2.perm pm).drop
  | ex x τ => obtain ⟨A, B, pm, r⟩ := r; exact h (.ex x τ) A G2 H2 r (s.perm (List.Perm.refl _) pm).drop (h2.perm pm).drop
  | bk τ => exact r.elim
  | ct τ => exact r.elim
theorem WS.ends {X : Cx} {T : Bool} {τ : TEnv} {M : Mem} {P : PK'} {E : XKx} {ss : List Stmt} (h : WS X T ss τ M (retD P E)) : WS X T ss τ M (retR P E) := .mk fun W tk σ G H hE hH D hR => h.run W tk σ G H hE hH D (csD hR)
/-- dropped at an end: the cells L, made here -/
theorem dN {M : Mem} (L : Mem) {d : Dat} {P : PK'} (h : P d M) : ∃ A B, (L ++ M).Perm (A ++ B) ∧ P d A := ⟨M, L, List.perm_append_comm, h⟩
theorem dX {M : Mem} (L : Mem) {x : Exn} {E : XKx} (h : E x M) : ∃ A B, (L ++ M).Perm (A ++ B) ∧ E x A := ⟨M, L, List.perm_append_comm, h⟩

/-! ### ifs and loops by what they compute -/
section
variable {X : Cx} {T : Bool} {τ : TEnv} {M : Mem} {P : PK'} {E : XKx} {t e iter tg : Expr} {p q body rest : List Stmt} {pos : Pos} {α β σ ρ : Type} {E1 : Er → Prop} {R : RK}
/-- a value by itself, its reading goes on behind it -/
theorem exJ {m : Res α} (f : α → Dat) {Q : α → Prop} (h : m.Out Q E1) (he : m.Out Q E1 → EX X T e τ M (fun d M1 => M1 = M ∧ ∃ v, d = f v ∧ Q v) E) (hk : ∀ v, Q v → P (f v) M) : EX X T e τ M P E :=
  (he h).imp (fun d M1 ⟨e1, v, e2, q⟩ => by rw [e1, e2]; exact hk v q) fun _ _ x => x
theorem etJ {m : Res Bool} {Q : Bool → Prop} {Pb : Bool → Mem → Prop} (h : m.Out Q E1) (he : m.Out Q E1 → ET X T e τ M (fun k M1 => M1 = M ∧ Q k) E) (hk : ∀ v, Q v → Pb v M) : ET X T e τ M Pb E :=
  (he h).imp (fun k M1 ⟨e1, q⟩ => by rw [e1]; exact hk k q) fun _ _ x => x
theorem ws_ifJ {m : Res σ} {Q : σ → Prop} (JJ : (σ → Prop) → TEnv → Mem → Prop) (h : m.Out Q E1)
    (hif : m.Out Q E1 → ET X T t τ M (fun k M1 => (k = true → WS X T p τ M1 (thenR (JJ Q) R)) ∧ (k = false → WS X T q τ M1 (thenR (JJ Q) R))) (fun x M1 => R (.ex x τ) M1))
    (hk : ∀ τ' M', JJ Q τ' M' → WS X T rest τ' M' R) : WS X T (.If t p q pos :: rest) τ M R :=
  ws_if ((hif h).imp (fun k M1 ⟨h1, h2⟩ => ⟨fun e => (h1 e).imp fun o M2 r => by cases o <;> first | exact hk _ _ r | exact r, fun e => (h2 e).imp fun o M2 r => by cases o <;> first | exact hk _ _ r | exact r⟩) fun _ _ x => x)
/-- what a loop over ds wants; what a comprehension over ds wants -/
def ForQ (X : Cx) (T : Bool) (tg : Expr) (body rest : List Stmt) (τ : TEnv) (R : RK) (ds : List Dat) (M1 : Mem) (Ok : Mem → Prop) : Prop :=
  ∃ I : Nat → TEnv → Mem → Prop, I 0 τ M1 ∧ (∀ i τ M, I i τ M → Ok M) ∧
      (∀ i d τ M, ds[i]? = some d → I i τ M → GX X T tg d τ M (fun τ2 M2 => WS X T body τ2 M2 (loopR (I (i + 1)) (fun τ M => WS X T rest τ M R) R)) (fun x M2 => R (.ex x τ) M2)) ∧
      (∀ τ M, I ds.length τ M → WS X T rest τ M R)
def LcQ (X : Cx) (scope : Scope) (vs : List Nat) (tg : Expr) (ifs : List Expr) (elt : Expr) (τ : TEnv) (ds : List Dat) (M1 : Mem) (Ok : Mem → Prop) (P : PK') : Prop :=
  ds.length ≤ sizeLine ∧ ∃ I : Nat → List Dat → Mem → Prop, I 0 [] M1 ∧ (∀ i acc M, I i acc M → Ok M) ∧
      (∀ i d acc M, ds[i]? = some d → I i acc M → ∀ (s : Shared) (H : Hp) (C : Addr) (cl : List (Str × Addr)) (fp : List Addr), GC (Cx.Bk X scope s H C cl fp) vs tg d (wipeT τ vs) M (fun τ2 M2 => ∀ (s : Shared) (H : Hp) (C : Addr) (cl : List (Str × Addr)) (fp : List Addr),
        EFs (Cx.Bk X scope s H C cl fp) ifs τ2 M2 (fun b M3 => (b = true → ∀ (s : Shared) (H : Hp) (C : Addr) (cl : List (Str × Addr)) (fp : List Addr), EX (Cx.Bk X scope s H C cl fp) false elt τ2 M3 (fun y M4 => I (i + 1) (acc ++ [y]) M4) E0') ∧ (b = false → I (i + 1) acc M3)))) ∧
      (∀ acc M, I ds.length acc M → P (.lst acc) M)
theorem ws_forT (hi : EI X tg iter τ M (fun ds M1 Ok => ForQ X T tg body rest τ R ds M1 Ok) (fun x M1 => R (.ex x τ) M1))
    (hp : PassesOwn (model X.prog X.w) X.A X.env X.xe := by first | exact PassesOwn.never | exact passes_of rfl | assumption) (hc : X.calm = true := by rfl) (hs : ∀ x, foldedSetIterable iter X.env x = pure x := by intro _; rfl) : WS X T (.For tg iter body [] pos :: rest) τ M R := ws_for hi hp hc hs
theorem ex_lcT {scope : Scope} {ifs : List Expr} {elt : Expr} (own : List (Str × Nat)) (h : EI X tg iter τ M (fun ds M1 Ok => LcQ X scope (own.map (·.2)) tg ifs elt τ ds M1 Ok P) E)
    (ok : BlkOk X.N X.env.scope scope own := by exact blkOk_by (by first | decide +kernel | kernel_rfl)) (hN : X.N.Nodup := by first | decide +kernel | exact of_decide_eq_true (by kernel_rfl)) (hc : X.calm = true := by rfl) (hs : ∀ x, foldedSetIterable iter X.env x = pure x := by intro _; rfl) :
    EX X T (.ListComp elt [⟨tg, iter, ifs, 0⟩] scope pos) τ M P E := ex_lc own h ok hN hc hs
theorem ws_setLcT {x : Str} {px : Pos} {scope : Scope} {ifs : List Expr} {elt : Expr} {lpos : Pos} (own : List (Str × Nat)) (h : EI X tg iter τ M (fun ds M1 Ok => LcQ X scope (own.map (·.2)) tg ifs elt τ ds M1 Ok (fun d M => WS X T rest (τ.set (ixIn X.N x) (some d)) M R)) (fun x M1 => R (.ex x τ) M1))
    (hi : X.N[ixIn X.N x]? = some x := by rfl) (hyl : X.env.scope.names.lookup x = some .local := by rfl) (hsw : swapsWith (.ListComp elt [⟨tg, iter, ifs, 0⟩] scope lpos) (some (.Name x px)) pos.line X.env = pure true := by exact sw_true rfl rfl rfl (by first | decide +kernel | kernel_rfl))
    (ok : BlkOk X.N X.env.scope scope own := by exact blkOk_by (by first | decide +kernel | kernel_rfl)) (hN : X.N.Nodup := by first | decide +kernel | exact of_decide_eq_true (by kernel_rfl)) (hc : X.calm = true := by rfl) (hs : ∀ x, foldedSetIterable iter X.env x = pure x := by intro _; rfl) :
    WS X T (.Assign [.Name x px] (.ListComp elt [⟨tg, iter, ifs, 0⟩] scope lpos) pos :: rest) τ M R := ws_setLc own h hi hyl hsw ok hN hc hs
theorem GX.impP {X : Cx} {T : Bool} {tg : Expr} {d : Dat} {τ : TEnv} {M : Mem} {Pg Pg' : TEnv → Mem → Prop} {Eg : XKx} (hp : ∀ τ M, Pg τ M → Pg' τ M) (hg : GX X T tg d τ M Pg Eg) : GX X T tg d τ M Pg' Eg :=
  .mk fun W tk σ G H v hE hH dv Q hP hX => hg.run W tk σ G H v hE hH dv Q (fun τ2 M2 G2 H2 σ2 r => hP τ2 M2 G2 H2 σ2 (hp _ _ r)) hX
theorem GC.impP {X : Cx} {vs : List Nat} {tg : Expr} {d : Dat} {τ : TEnv} {M : Mem} {Pg Pg' : TEnv → Mem → Prop} (hp : ∀ τ M, Pg τ M → Pg' τ M) (hg : GC X vs tg d τ M Pg) : GC X vs tg d τ M Pg' :=
  fun σ G H v hE hH dv Q hQ => hg σ G H v hE hH dv Q fun τ' M' G' H' σ' r => hQ τ' M' G' H' σ' (hp _ _ r)
theorem foldT {xs : List α} (f : α → Dat) {g : σ → α → Res σ} {s0 : σ} {M1 : Mem} {Ok : Mem → Prop} (J : σ → TEnv → Mem → Prop) {Q : σ → Prop} (h : (foldR g xs s0).Out Q E1) (h0 : J s0 τ M1) (hOk : ∀ s τ M, J s τ M → Ok M)
    (step : ∀ x s τ M (N : σ → Prop), J s τ M → (g s x).Out N E1 → GX X T tg (f x) τ M (fun τ2 M2 => WS X T body τ2 M2 (loopR (fun τ M => ∃ s, J s τ M ∧ N s) (fun τ M => WS X T rest τ M R) R)) (fun x M2 => R (.ex x τ) M2))
    (fin : ∀ s τ M, J s τ M → Q s → WS X T rest τ M R) :
    ForQ X T tg body rest τ R (xs.map f) M1 Ok := by
  refine ⟨fun i τ M => ∃ s, J s τ M ∧ (foldR g (xs.drop i) s).Out Q E1, ⟨s0, h0, h⟩, fun i τ M ⟨s, h1, _⟩ => hOk s τ M h1, ?_, ?_⟩
  · rintro i d τ M hd ⟨s, h1, h2⟩
    rw [List.getElem?_map] at hd
    obtain ⟨x, hx, rfl⟩ := Option.map_eq_some_iff.mp hd
    obtain ⟨hi, rfl⟩ := List.getElem?_eq_some_iff.mp hx
    rw [List.drop_eq_getElem_cons hi] at h2
    exact step _ s τ M _ h1 (ob h2)
  · rintro τ M ⟨s, h1, h2⟩
    rw [List.length_map, List.drop_length] at h2
    exact fin s τ M h1 h2
theorem forT {xs : List α} (f : α → Dat) {g : σ → α → Res (Ctl σ ρ)} {s0 : σ} {M1 : Mem} {Ok : Mem → Prop} (J : σ → TEnv → Mem → Prop) {Q : Ctl σ ρ → Prop} (h : (forR g xs s0).Out Q E1) (h0 : J s0 τ M1) (hOk : ∀ s τ M, J s τ M → Ok M)
    (step : ∀ x s τ M (N : Ctl σ ρ → Prop), J s τ M → (g s x).Out N E1 → (∀ r, N (.rt r) → Q (.rt r)) → GX X T tg (f x) τ M (fun τ2 M2 => WS X T body τ2 M2 (loopR (fun τ M => ∃ s, J s τ M ∧ N (.nx s)) (fun τ M => ∃ s, J s τ M ∧ N (.bk s)) R)) (fun x M2 => R (.ex x τ) M2))
    (fin : ∀ s τ M, J s τ M → Q (.nx s) → WS X T rest τ M R) :
    ForQ X T tg body rest τ R (xs.map f) M1 Ok := by
  refine ⟨fun i τ M => ∃ s, J s τ M ∧ (forR g (xs.drop i) s).Out Q E1, ⟨s0, h0, h⟩, fun i τ M ⟨s, h1, _⟩ => hOk s τ M h1, ?_, ?_⟩
  · rintro i d τ M hd ⟨s, h1, h2⟩
    rw [List.getElem?_map] at hd
    obtain ⟨x, hx, rfl⟩ := Option.map_eq_some_iff.mp hd
    obtain ⟨hi, rfl⟩ := List.getElem?_eq_some_iff.mp hx
    rw [List.drop_eq_getElem_cons hi] at h2
    refine GX.impP (fun τ2 M2 hw => ?_) (step _ s τ M _ h1 (ob h2) fun r z => z)
    refine hw.imp fun o M3 r => ?_
    cases o with
    | nx τ3 => exact r
    | ct τ3 => exact r
    | bk τ3 => obtain ⟨s3, j3, q3⟩ := r; exact fin s3 τ3 M3 j3 q3
    | rt d => exact r
    | ex x τ3 => exact r
  · rintro τ M ⟨s, h1, h2⟩
    rw [List.length_map, List.drop_length] at h2
    exact fin s τ M h1 h2
/-- the tuple that a comprehension wants -/
theorem compT {xs : List α} (f : α → Dat) (f2 : β → Dat) {g : α → Res (Option β)} {M1 : Mem} {Ok : Mem → Prop} {vs : List Nat} {scope : Scope} {ifs : List Expr} {elt : Expr} {Q : List β → Prop} (h : (compR g xs).Out Q E1) (hOk : Ok M1)
    (step : ∀ x (N : Option β → Prop), (g x).Out N (fun _ => False) → ∀ (s : Shared) (H : Hp) (C : Addr) (cl : List (Str × Addr)) (fp : List Addr), GC (Cx.Bk X scope s H C cl fp) vs tg (f x) (wipeT τ vs) M1 (fun τ2 M2 => ∀ (s : Shared) (H : Hp) (C : Addr) (cl : List (Str × Addr)) (fp : List Addr),
        EFs (Cx.Bk X scope s H C cl fp) ifs τ2 M2 (fun b M3 => (b = true → ∀ (s : Shared) (H : Hp) (C : Addr) (cl : List (Str × Addr)) (fp : List Addr), EX (Cx.Bk X scope s H C cl fp) false elt τ2 M3 (fun y M4 => M4 = M1 ∧ ∃ v, y = f2 v ∧ N (some v)) E0') ∧ (b = false → M3 = M1 ∧ N none))))
    (fin : ∀ ys, Q ys → P (lstD f2 ys) M1) :
    LcQ X scope vs tg ifs elt τ (xs.map f) M1 Ok P := by
  unfold compR at h
  split at h
  case isFalse => exact h.elim
  rename_i hl
  have h : (compL g xs).Out Q (fun _ => False) := ne_out h
  refine ⟨by rw [List.length_map]; exact hl, fun i acc M => M = M1 ∧ ∃ ys : List β, acc = ys.map f2 ∧ (compL g (xs.drop i)).Out (fun r => Q (ys ++ r)) (fun _ => False), ⟨rfl, [], rfl, h⟩, fun i acc M ⟨e, _⟩ => by rw [e]; exact hOk, ?_, ?_⟩
  · rintro i d acc M hd ⟨rfl, ys, rfl, h2⟩ s H C cl fp
    rw [List.getElem?_map] at hd
    obtain ⟨x, hx, rfl⟩ := Option.map_eq_some_iff.mp hd
    obtain ⟨hi, rfl⟩ := List.getElem?_eq_some_iff.mp hx
    rw [List.drop_eq_getElem_cons hi] at h2
    refine GC.impP (fun τ2 M2 hw => ?_) (step _ _ (ob h2) s H C cl fp)
    intro s H C cl fp σ G H' hE hH Q' hQ
    refine hw s H C cl fp σ G H' hE hH Q' fun b M3 G3 H3 ⟨p1, p2⟩ s3 h3 => hQ b M3 G3 H3 ⟨fun eb s H C cl fp => ?_, fun eb => ?_⟩ s3 h3
    · refine (p1 eb s H C cl fp).imp (fun y M4 ⟨e4, v, ev, hv⟩ => ?_) fun _ _ x => x
      subst ev
      refine ⟨e4, ys ++ [v], by simp, ?_⟩
      have hv := ob hv
      refine out_mono hv (fun r q => ?_) fun _ z => z
      have : Q (ys ++ ((some v).toList ++ r)) := q
      simpa using this
    · obtain ⟨e3, hv⟩ := p2 eb
      refine ⟨e3, ys, rfl, ?_⟩
      exact out_mono (ob hv) (fun r q => by have : Q (ys ++ ((none : Option β).toList ++ r)) := q; simpa using this) fun _ z => z
  · rintro acc M ⟨rfl, ys, rfl, h2⟩
    rw [List.length_map, List.drop_length] at h2
    have : Q (ys ++ []) := h2
    rw [List.append_nil] at this
    exact fin ys this
end
/-! tests by what they compute -/
section
variable {X : Cx} {T : Bool} {τ : TEnv} {M : Mem} {E : XKx} {a b : Expr} {rest : List Expr} {pos : Pos} {E1 : Er → Prop} {Q : Bool → Prop}
theorem ewA {ma mb : Res Bool} (h : (andR ma mb).Out Q E1) (ha : ∀ Q', ma.Out Q' E1 → ET X T a τ M (fun k M1 => M1 = M ∧ Q' k) E) (hb : mb.Out Q E1 → EW X T (.BoolOp .And (b :: rest) pos) τ M (fun k M1 => M1 = M ∧ Q k) E) :
    EW X T (.BoolOp .And (a :: b :: rest) pos) τ M (fun k M1 => M1 = M ∧ Q k) E :=
  ew_and ((ha _ (ob h)).imp (fun k M1 ⟨e, q⟩ => by
    subst e
    cases k with
    | true => exact ⟨fun _ => hb q, fun z => nomatch z⟩
    | false => exact ⟨(fun z => nomatch z), fun _ => ⟨rfl, q⟩⟩) fun _ _ x => x)
theorem ewO {ma mb : Res Bool} (h : (orR ma mb).Out Q E1) (ha : ∀ Q', ma.Out Q' E1 → ET X T a τ M (fun k M1 => M1 = M ∧ Q' k) E) (hb : mb.Out Q E1 → EW X T (.BoolOp .Or (b :: rest) pos) τ M (fun k M1 => M1 = M ∧ Q k) E) :
    EW X T (.BoolOp .Or (a :: b :: rest) pos) τ M (fun k M1 => M1 = M ∧ Q k) E :=
  ew_or ((ha _ (ob h)).imp (fun k M1 ⟨e, q⟩ => by
    subst e
    cases k with
    | true => exact ⟨fun _ => ⟨rfl, q⟩, fun z => nomatch z⟩
    | false => exact ⟨(fun z => nomatch z), fun _ => hb q⟩) fun _ _ x => x)
theorem etN {ma : Res Bool} (h : (notR ma).Out Q E1) (ha : ∀ Q', ma.Out Q' E1 → ET X T a τ M (fun k M1 => M1 = M ∧ Q' k) E) : ET X T (.UnaryOp .Not a pos) τ M (fun k M1 => M1 = M ∧ Q k) E :=
  et_not ((ha _ (ob h)).imp (fun k M1 ⟨e, q⟩ => ⟨e, q⟩) fun _ _ x => x)
theorem exA {ma mb : Res Bool} (h : (andR ma mb).Out Q E1) (ha : ∀ Q', ma.Out Q' E1 → EX X T a τ M (fun d M1 => M1 = M ∧ ∃ k, d = .bl k ∧ Q' k) E) (hb : mb.Out Q E1 → EX X T (.BoolOp .And (b :: rest) pos) τ M (fun d M1 => M1 = M ∧ ∃ k, d = .bl k ∧ Q k) E) :
    EX X T (.BoolOp .And (a :: b :: rest) pos) τ M (fun d M1 => M1 = M ∧ ∃ k, d = .bl k ∧ Q k) E :=
  ex_and ((ha _ (ob h)).imp (fun d M1 ⟨e, k, ek, q⟩ => by
    subst e
    refine ⟨k, ek, ?_⟩
    cases k with
    | true => exact ⟨fun _ => hb q, fun z => nomatch z⟩
    | false => exact ⟨(fun z => nomatch z), fun _ => ⟨rfl, _, rfl, q⟩⟩) fun _ _ x => x)
theorem exO {ma mb : Res Bool} (h : (orR ma mb).Out Q E1) (ha : ∀ Q', ma.Out Q' E1 → EX X T a τ M (fun d M1 => M1 = M ∧ ∃ k, d = .bl k ∧ Q' k) E) (hb : mb.Out Q E1 → EX X T (.BoolOp .Or (b :: rest) pos) τ M (fun d M1 => M1 = M ∧ ∃ k, d = .bl k ∧ Q k) E) :
    EX X T (.BoolOp .Or (a :: b :: rest) pos) τ M (fun d M1 => M1 = M ∧ ∃ k, d = .bl k ∧ Q k) E :=
  ex_or ((ha _ (ob h)).imp (fun d M1 ⟨e, k, ek, q⟩ => by
    subst e
    refine ⟨k, ek, ?_⟩
    cases k with
    | true => exact ⟨fun _ => ⟨rfl, _, rfl, q⟩, fun z => nomatch z⟩
    | false => exact ⟨(fun z => nomatch z), fun _ => hb q⟩) fun _ _ x => x)
end
end Kh

set_option Elab.async false
set_option linter.all false
set_option maxRecDepth 100000
set_option maxHeartbeats 1000000
namespace Kh
open PySem PySem.Spec L2

/-! ### data that is compared by its parts -/
structure PyE {α : Type} (e : α → Dat) [DecidableEq α] where
  ok : α → Bool
  py : α → PyData
  dep : Nat
  to : ∀ a, toPy (e a) = some (py a)
  lay : ∀ a, ok a = true → (py a).canLay0 = true
  dp : ∀ a, (py a).depth ≤ dep
  eqv : ∀ a b, PyData.eqv (py a) (py b) = decide (a = b)
def pyI : PyE Dat.int := ⟨fun _ => true, .int, 0, fun a => by simp [toPy], fun _ _ => by simp [PyData.canLay0], fun _ => by simp [PyData.depth], fun a b => by simp only [PyData.eqv]; rw [Bool.eq_iff_iff]; simp⟩
def pyB : PyE Dat.bl := ⟨fun _ => true, .bool, 0, fun a => by simp [toPy], fun _ _ => by simp [PyData.canLay0], fun _ => by simp [PyData.depth], fun a b => by simp only [PyData.eqv]; rw [Bool.eq_iff_iff]; simp⟩
def pyN : PyE untD := ⟨fun _ => true, fun _ => .none, 0, fun a => by simp [toPy], fun _ _ => by simp [PyData.canLay0], fun _ => by simp [PyData.depth], fun a b => by simp [PyData.eqv]⟩
def pyS : PyE Dat.str := ⟨fun z => z.cps.all (· < 0x110000), .str, 0, fun a => by simp [toPy], fun a h => by simpa [PyData.canLay0, PyData.strOk] using h, fun _ => by simp [PyData.depth], fun a b => by simp only [PyData.eqv]; rw [Bool.eq_iff_iff]; simp⟩
theorem chS_inj {a b : Nat} : chS a = chS b ↔ a = b := ⟨fun h => by injection h with h; simpa using h, fun h => by rw [h]⟩
def pyC : PyE chD := ⟨fun c => decide (c < 0x110000), fun c => .str (chS c), 0, fun a => by simp [toPy], fun a h => by simpa [PyData.canLay0, PyData.strOk] using h, fun _ => by simp [PyData.depth], fun a b => by
  simp only [PyData.eqv]; rw [Bool.eq_iff_iff]; simp [chS_inj]⟩
section
variable {α β γ : Type} {e : α → Dat} {f : β → Dat} {g : γ → Dat} [DecidableEq α] [DecidableEq β] [DecidableEq γ]
theorem toPyL_map (p : PyE e) : ∀ xs : List α, toPyL (xs.map e) = some (xs.map p.py)
  | [] => by simp [toPyL]
  | x :: xs => by simp [toPyL, p.to x, toPyL_map p xs]
theorem layL (p : PyE e) : ∀ xs : List α, xs.all p.ok = true → PyData.canLayAll0 (xs.map p.py) = true
  | [], _ => by simp [PyData.canLayAll0]
  | x :: xs, h => by
    rw [List.all_cons, Bool.and_eq_true] at h
    simp only [List.map_cons, PyData.canLayAll0, Bool.and_eq_true]
    exact ⟨p.lay x h.1, layL p xs h.2⟩
theorem depL (p : PyE e) : ∀ xs : List α, PyData.depthAll (xs.map p.py) ≤ p.dep
  | [] => by simp [PyData.depthAll]
  | x :: xs => by
    simp only [List.map_cons, PyData.depthAll]
    exact Nat.max_le.mpr ⟨p.dp x, depL p xs⟩
theorem eqvL (p : PyE e) : ∀ xs ys : List α, PyData.eqvAll (xs.map p.py) (ys.map p.py) = decide (xs = ys)
  | [], [] => by simp [PyData.eqvAll]
  | [], _ :: _ => by simp [PyData.eqvAll]
  | _ :: _, [] => by simp [PyData.eqvAll]
  | x :: xs, y :: ys => by
    simp only [List.map_cons, PyData.eqvAll, p.eqv, eqvL p xs ys]
    rw [Bool.eq_iff_iff]; simp
def pyL (p : PyE e) : PyE (lstD e) := ⟨fun xs => xs.all p.ok, fun xs => .list (xs.map p.py), p.dep + 1, fun xs => by simp [toPy, toPyL_map p], fun xs h => by simp only [PyData.canLay0]; exact layL p xs h, fun xs => by
  simp only [PyData.depth]; have := depL p xs; omega, fun xs ys => by simp only [PyData.eqv]; exact eqvL p xs ys⟩
def pyV (p : PyE e) : PyE (vtpD e) := ⟨fun xs => xs.all p.ok, fun xs => .tuple (xs.map p.py), p.dep + 1, fun xs => by simp [toPy, toPyL_map p], fun xs h => by simp only [PyData.canLay0]; exact layL p xs h, fun xs => by
  simp only [PyData.depth]; have := depL p xs; omega, fun xs ys => by simp only [PyData.eqv]; exact eqvL p xs ys⟩
def py2 (p : PyE e) (q : PyE f) : PyE (pairD e f) := ⟨fun x => p.ok x.1 && q.ok x.2, fun x => .tuple [p.py x.1, q.py x.2], max p.dep q.dep + 1, fun x => by simp [toPy, toPyL, p.to, q.to], fun x h => by
  rw [Bool.and_eq_true] at h; simp only [PyData.canLay0, PyData.canLayAll0, Bool.and_eq_true]; exact ⟨p.lay _ h.1, q.lay _ h.2, trivial⟩, fun x => by
  simp only [PyData.depth, PyData.depthAll]; have := p.dp x.1; have := q.dp x.2; omega, fun x y => by
  obtain ⟨a, b⟩ := x; obtain ⟨c, d⟩ := y; simp only [PyData.eqv, PyData.eqvAll, p.eqv, q.eqv]; rw [Bool.eq_iff_iff]; simp⟩
def py3 (p : PyE e) (q : PyE f) (r : PyE g) : PyE (tripD e f g) := ⟨fun x => p.ok x.1 && (q.ok x.2.1 && r.ok x.2.2), fun x => .tuple [p.py x.1, q.py x.2.1, r.py x.2.2], max p.dep (max q.dep r.dep) + 1, fun x => by simp [toPy, toPyL, p.to, q.to, r.to], fun x h => by
  simp only [Bool.and_eq_true] at h; simp only [PyData.canLay0, PyData.canLayAll0, Bool.and_eq_true]; exact ⟨p.lay _ h.1, q.lay _ h.2.1, r.lay _ h.2.2, trivial⟩, fun x => by
  simp only [PyData.depth, PyData.depthAll]; have := p.dp x.1; have := q.dp x.2.1; have := r.dp x.2.2; omega, fun x y => by
  obtain ⟨a, b, c⟩ := x; obtain ⟨a', b', c'⟩ := y; simp only [PyData.eqv, PyData.eqvAll, p.eqv, q.eqv, r.eqv]; rw [Bool.eq_iff_iff]; simp⟩
/-- None, or data that is no None -/
def pyO (p : PyE e) (hn : ∀ a, PyData.eqv (p.py a) .none = false ∧ PyData.eqv .none (p.py a) = false) : PyE (optD e) := ⟨fun x => match x with | none => true | some a => p.ok a, fun x => match x with | none => .none | some a => p.py a, p.dep,
  fun x => by cases x <;> simp [optD, toPy, p.to], fun x h => by cases x with | none => simp [PyData.canLay0] | some a => exact p.lay a h, fun x => by cases x with | none => simp [PyData.depth] | some a => exact p.dp a, fun x y => by
  cases x with
  | none => cases y with
    | none => simp [PyData.eqv]
    | some b => show PyData.eqv .none (p.py b) = _; rw [(hn b).2]; simp
  | some a => cases y with
    | none => show PyData.eqv (p.py a) .none = _; rw [(hn a).1]; simp
    | some b => show PyData.eqv (p.py a) (p.py b) = _; rw [p.eqv]; simp⟩
end
section
variable {X : Cx} {T : Bool} {τ : TEnv} {M A B : Mem} {P : PK'} {E : XKx} {a b c o e : Expr} {es : List Expr} {pos p apos tpos : Pos} {α β : Type} {E1 : Er → Prop} {q : Addr}
theorem PyE.shaped {α : Type} {e : α → Dat} [DecidableEq α] (p : PyE e) {a : α} (hd : p.dep ≤ 64) (h : p.ok a = true) : SeqAt.shaped (p.py a) = true := by
  unfold SeqAt.shaped
  rw [Bool.and_eq_true]
  exact ⟨p.lay a h, decide_eq_true (Nat.le_trans (p.dp a) hd)⟩
/-- whether two such data are equal; their texts must be texts -/
def peq {α : Type} [DecidableEq α] (ok : α → Bool) (a b : α) : Res Bool := guard (ok a = true ∧ ok b = true) (decide (a = b))
theorem r_eqD {α : Type} {e : α → Dat} [DecidableEq α] (p : PyE e) (a b : α) (hu : X.A.units + 64 < cLine) {Q : Bool → Prop} (h : (peq p.ok a b).Out Q E1) (hk : ∀ z, Q z → P (.bl z) M) (hd : p.dep ≤ 64 := by decide) : OP X T (compareOp .Eq) (e a) (e b) M P :=
  o_eqD (p.to a) (p.to b) (p.shaped hd (gd h).1.1) (p.shaped hd (gd h).1.2) hu (by rw [p.eqv]; exact hk _ (gd h).2)
theorem r_neD {α : Type} {e : α → Dat} [DecidableEq α] (p : PyE e) (a b : α) (hu : X.A.units + 64 < cLine) {Q : Bool → Prop} (h : (peq p.ok a b).Out Q E1) (hk : ∀ z, Q z → P (.bl (!z)) M) (hd : p.dep ≤ 64 := by decide) : OP X T (compareOp .NotEq) (e a) (e b) M P :=
  o_neD (p.to a) (p.to b) (p.shaped hd (gd h).1.1) (p.shaped hd (gd h).1.2) hu (by rw [p.eqv]; exact hk _ (gd h).2)
theorem o_isNT {α : Type} (e : α → Dat) (hn : ∀ a, (e a).isN = false ∧ ∀ u, e a ≠ .raw u) {x : Option α} (h : P (.bl x.isNone) M) : OP X T (compareOp .Is) (optD e x) .non M P := by
  cases x with
  | none => exact o_isN (fun u => by simp [optD]) h
  | some a => exact o_isN (fun u => (hn a).2 u) (by show P (.bl (e a).isN) M; rw [(hn a).1]; exact h)
theorem o_notNT {α : Type} (e : α → Dat) (hn : ∀ a, (e a).isN = false ∧ ∀ u, e a ≠ .raw u) {x : Option α} (h : P (.bl (!x.isNone)) M) : OP X T (compareOp .IsNot) (optD e x) .non M P := by
  cases x with
  | none => exact o_notN (fun u => by simp [optD]) h
  | some a => exact o_notN (fun u => (hn a).2 u) (by show P (.bl (!(e a).isN)) M; rw [(hn a).1]; exact h)
theorem cifN {c : Bool} {A B : Res α} {P : α → Prop} {E : Er → Prop} (h : (cond c A B).Out P E) {X Y : Prop} (a : A.Out P E → X) (b : B.Out P E → Y) : ((!c) = true → Y) ∧ ((!c) = false → X) := by
  cases c with
  | true => exact ⟨(fun z => nomatch z), fun _ => a h⟩
  | false => exact ⟨fun _ => b h, fun z => nomatch z⟩
/-! walks -/
variable {iter tg : Expr} {PI' : List Dat → Mem → (Mem → Prop) → Prop}
theorem ei_rng1 (hm : X.mg "range" = none) (h : EX X false a τ M (fun d M1 => ∃ j, d = .int j ∧ small62 j ∧ PI' ((rangeL 0 j.toNat).map Dat.int) M1 anyM) E) (hg : Gl X "range" := by rfl) (hs : starEach [a] X.env = [(false, eval a X.env)] := by rfl) : EI X tg (.Call (.Name "range" p) [a] [] pos) τ M PI' E :=
  ei_range1 hm (h.imp (fun d M1 ⟨j, e, hj, hp⟩ => ⟨j, e, hj, by rw [rngD_map]; exact hp⟩) fun _ _ x => x) hg hs
theorem ei_rng2 (hm : X.mg "range" = none) (h : EX X false a τ M (fun d M1 => EX X false b τ M1 (fun d2 M2 => ∃ i j, d = .int i ∧ d2 = .int j ∧ (small62 i ∧ small62 j) ∧ PI' ((rangeL i (j - i).toNat).map Dat.int) M2 anyM) E) E) (hg : Gl X "range" := by rfl)
    (hs : starEach [a, b] X.env = [(false, eval a X.env), (false, eval b X.env)] := by rfl) (hs2 : starEach [b] X.env = [(false, eval b X.env)] := by rfl) : EI X tg (.Call (.Name "range" p) [a, b] [] pos) τ M PI' E :=
  ei_range2 hm (h.imp (fun d M1 h1 => h1.imp (fun d2 M2 ⟨i, j, e1, e2, ⟨h1, h2⟩, hp⟩ => ⟨i, j, e1, e2, ⟨h1.1, h1.2, h2.1, h2.2⟩, by rw [rngD_map]; exact hp⟩) fun _ _ x => x) fun _ _ x => x) hg hs hs2
/-- a range upwards by a step -/
def rng3ok (i j c : Int) : Prop := (small62 i ∧ small62 j) ∧ 0 < c ∧ c < 1073741824
instance {i j c : Int} : Decidable (rng3ok i j c) := inferInstanceAs (Decidable (_ ∧ _))
theorem ei_enumT (f : α → Dat) {elts : List Expr} {kk : Nat} {tpos : Pos} (hm : X.mg "enumerate" = none) (h : EX X false e τ M (fun d M1 => ∃ xs : List α, d = lstD f xs ∧ PI' ((enumL xs).map (pairD Dat.int f)) M1 anyM) E) (hg : Gl X "enumerate" := by rfl) (hs : starEach [e] X.env = [(false, eval e X.env)] := by rfl) :
    EI X (.Tuple elts kk tpos) (.Call (.Name "enumerate" p) [e] [] pos) τ M PI' E :=
  ei_enum hm (h.imp (fun d M1 ⟨xs, e, hp⟩ => ⟨xs.map f, e, by rw [enuD_map]; exact hp⟩) fun _ _ x => x) hg hs
/-! cells -/
theorem l_cellT (A : Mem) (f : α → Dat) {xs : List α} {lo hi : Option Int} (h : P (lstD f (cutD xs lo hi)) (A ++ (q, .lst (xs.map f)) :: B)) : SQ X (.raw (.ref q)) lo hi (A ++ (q, .lst (xs.map f)) :: B) P :=
  l_cell (List.mem_append_right _ List.mem_cons_self) (by rw [cutD_map]; exact h)
/-- what o[i] = d wants -/
def SetQ (K : PySem.W.Frag) (od id d : Dat) (M : Mem) (Pm : Mem → Prop) : Prop := ∃ q ds k j, od = .raw (.ref q) ∧ id = .int k ∧ (q, MC.lst ds) ∈ M ∧ ixN ds.length k = some j ∧ ∀ G H, Hst K G M H → Pm (putC q (.lst (ds.set j d)) M)
theorem r_set (A : Mem) (f : α → Dat) {xs : List α} {x : α} {k : Int} {Q : List α → Prop} {Pm : Mem → Prop} (h : (pset xs k x).Out Q E1) (hk : ∀ z, Q z → Pm (A ++ (q, .lst (z.map f)) :: B)) :
    SetQ X.K (.raw (.ref q)) (.int k) (f x) (A ++ (q, .lst (xs.map f)) :: B) Pm := by
  unfold pset at h
  cases e : ixN xs.length k with
  | none => rw [e] at h; exact h.elim
  | some j =>
    rw [e] at h
    refine ⟨q, xs.map f, k, j, rfl, rfl, List.mem_append_right _ List.mem_cons_self, by rw [List.length_map]; exact e, fun G H hH => ?_⟩
    have nd := hH.nd
    have : putC q (.lst ((xs.map f).set j (f x))) (A ++ (q, .lst (xs.map f)) :: B) = A ++ (q, .lst ((xs.set j x).map f)) :: B := by
      rw [← List.map_set]
      rw [adr_append] at nd
      have hA : ∀ c ∈ A, c.1 ≠ q := fun c hc e => by
        have h1 : q ∈ adr A := List.mem_flatMap.mpr ⟨c, hc, by obtain ⟨p, c⟩ := c; simp only at e; subst e; cases c <;> simp [adr1]⟩
        exact (List.nodup_append.mp nd).2.2 q h1 q (by simp [adr, adr1]) rfl
      clear hH nd h hk
      induction A with
      | nil => simp [putC]
      | cons c A ih =>
        obtain ⟨p, c⟩ := c
        have : p ≠ q := hA _ List.mem_cons_self
        simp only [List.cons_append, putC, if_neg this]
        rw [ih fun c hc => hA c (List.mem_cons_of_mem _ hc)]
    rw [this]
    exact hk _ h
/-- o[i] = v, the cells as they are told by r_set -/
theorem gx_subT {i : Expr} {d : Dat} {Pt : TEnv → Mem → Prop} (h : EX X false o τ M (fun od M1 => EX X false i τ M1 (fun id M2 => SetQ X.K od id d M2 (fun M3 => Pt τ M3)) E) E)
    (ha : ∀ v, assign (.Subscript o i pos) X.env v = (do
      let ov ← holding [v] (eval o X.env)
      let iv ← holding [v, ov] (eval i X.env)
      standAt pos
      holding [v, ov, iv] (setItem ov iv v)
      release [v, ov, iv] []) := by intro _; rfl) : GX X T (.Subscript o i pos) d τ M Pt E := .mk fun W tk σ G H v hE hH dv Q hP hX => by
  refine tWG_of (pg_sub (pe_W (e := o)) (pe_W (e := i)) set_list ha) ?_
  refine h.run W tk σ G H hE hH _ ?_ hX
  intro od M1 ov G1 H1 hi s1 h1 dov
  refine hi.run W tk σ G1 H1 (hE.up s1.gg) h1 _ ?_ (hX.step s1)
  rintro id M2 iv G2 H2 ⟨q, ds, k, j, rfl, rfl, hm, hj, hp⟩ s2 h2 div
  obtain ⟨xs, g, dx⟩ := h2.mem _ hm
  obtain ⟨s3, h3⟩ := put_ok (c' := .lst (ds.set j d)) (H2 := upd H2 q (.lst (xs.set j v))) h2 hm rfl (fun b hb => upd_ne hb) ⟨_, upd_same, dx.set (dv.up (s1.trans s2).gg) j⟩
  exact ⟨q, xs, k, j, (dov.up s2.gg).raw_inv, div.int_inv, g, by rw [dx.length]; exact hj, hP _ _ _ _ _ (hp _ _ h2) ((s1.trans s2).trans s3) h3 ((hE.up (s1.trans s2).gg).up s3.gg)⟩
/-! calls with a cell, of defs that give a new list -/
variable {k : Nat} {f : Addr} {fd : FuncData} {ps : List Str} {S : Spc} {x qual : Str} {st : Stmt}
theorem ex_callA (F : FnD X.prog X.w X.K X.mg X.base k f fd ps S) (hr : Room k X.A) (hm : X.mg x = some (.ref f)) (FF : Fun X.K x qual st f fd) (hb : Binds X.K fd ps [])
    (h : EA X T (e :: es) τ M (fun ds M1 => AP S ds M1 P E) E) (hg : Gl X x := by rfl) (hdb : (x == ("__debug__" : Str)) = false := by decide) (he : starEach (e :: es) X.env = (false, eval e X.env) :: starEach es X.env := by rfl) (hpl : (backTo pos (starEach es X.env)).any (·.1) = false := by rfl) :
    EX X T (.Call (.Name x p) (e :: es) [] pos) τ M P E := ex_call (df := []) (dvs := []) F hr hm FF.kp hb .nil (fun _ => .nil) (.mk fun W tk σ G H hE hH Q hP hX => h.run W tk σ G H hE hH Q (fun ds M2 vs G2 H2 hs => hP ds M2 vs G2 H2 (by show AP S (ds ++ []) M2 P E; rw [List.append_nil]; exact hs)) hX) hg hdb he hpl
/-- the cell behind A is handed to the def -/
def UpC {δ : Type} (A B : Mem) (P : δ → Mem → Prop) (d : δ) (Mc : Mem) : Prop := ∃ M2, (Mc ++ (A ++ B)).Perm M2 ∧ P d M2
theorem apC {ds : List Dat} (A : Mem) {c : MC} (h : S ds [(q, c)] (UpC A B P) (UpC A B E)) : AP S ds (A ++ (q, c) :: B) P E := ⟨_, _, List.perm_middle, h⟩
theorem outC1 {m : Res (α × List β)} {ff : α → Dat} {g : β → Dat} {Q : α × List β → Prop} (h : m.Out Q E1) (hk : ∀ r, Q r → P (ff r.1) (A ++ (q, .lst (r.2.map g)) :: B)) (hx : ∀ x, E1 x → False) :
    m.Out (fun r => UpC A B P (ff r.1) [(q, .lst (r.2.map g))]) (fun _ => False) :=
  out_mono h (fun r z => ⟨_, (List.perm_middle (l₁ := A)).symm, hk r z⟩) hx
theorem outR {m : Res (List β)} {g : β → Dat} {ex : Er → Exn} {Q : List β → Prop} (h : m.Out Q E1) (hk : ∀ r, Q r → ∀ q, P (.raw (.ref q)) ((q, .lst (r.map g)) :: M)) (hx : ∀ x, E1 x → E (ex x) M) :
    m.Out (fun r => ∀ q, UpP P (.raw (.ref q)) ((q, .lst (r.map g)) :: M)) (fun x => UpP E (ex x) M) := out_mono h (fun r z q => UpP.mk (hk r z q)) fun x z => UpP.mk (hx x z)
theorem finO {σ ρ β : Type} {k : σ → Res β} {r : ρ → Res β} {s : σ} {P : β → Prop} {E : Er → Prop} (h : (Ctl.fin k r (.nx s)).Out P E) : (k s).Out P E := h
end
end Kh

set_option Elab.async false
set_option linter.all false
set_option maxRecDepth 100000
set_option maxHeartbeats 1000000
namespace Kh
open PySem PySem.Spec L2
open PyProof.Rows (Compare_chain isTrue_chain chain_link chain_last test_link test_last)
/-! ### a op b op' c .. -/
structure TCh (X : Cx) (T : Bool) (pos : Pos) (ops : List CmpOp) (es : List Expr) (x : Dat) (τ : TEnv) (M : Mem) (P : Bool → Mem → Prop) (E : XKx) : Prop where
  run : ∀ W, Takes X W → ∀ σ G H v, DenE X.K τ G σ → Hst X.K G M H → Den X.K G x v → ∀ Q, CT' X.K G M H P Q → CX' X.K G M H E (fun c d H2 => W c d σ H2) →
    ∀ pins s u, Tk T s → Inv X pins σ H s → RelV v u → wpAny (model X.prog X.w) X.A (testChain pos u ops (evalEach es X.env)) (TP X pins σ Q) X.xe s
structure VCh (X : Cx) (T : Bool) (pos : Pos) (ops : List CmpOp) (es : List Expr) (x : Dat) (τ : TEnv) (M : Mem) (P : PK') (E : XKx) : Prop where
  run : ∀ W, Takes X W → ∀ σ G H v, DenE X.K τ G σ → Hst X.K G M H → Den X.K G x v → ∀ Q, CE' X.K G M H P Q → CX' X.K G M H E (fun c d H2 => W c d σ H2) →
    ∀ pins s u, Tk T s → Inv X pins σ H s → RelV v u → wpAny (model X.prog X.w) X.A (compareChain pos u ops (evalEach es X.env)) (EP X pins σ Q) X.xe s
section
variable {X : Cx} {T : Bool} {τ : TEnv} {M : Mem} {P : PK'} {E : XKx} {a r r' : Expr} {rs : List Expr} {op op' : CmpOp} {ops : List CmpOp} {pos : Pos} {x : Dat} {Pb : Bool → Mem → Prop}
theorem et_chain (h : EX X T a τ M (fun x M1 => TCh X T pos (op :: op' :: ops) (r :: r' :: rs) x τ M1 Pb E) E) (hm : lastMarks (op :: op' :: ops) (r :: r' :: rs) = false := by with_unfolding_all rfl) :
    ET X T (.Compare a (op :: op' :: ops) (r :: r' :: rs) pos) τ M Pb E := .mk fun W tk σ G H hE hH Q hP hX pins s k I => by
  have hA := h.run W tk σ G H hE hH (fun v H1 => ∀ pins s u, Tk T s → Inv X pins σ H1 s → RelV v u → wpAny (model X.prog X.w) X.A (testChain pos u (op :: op' :: ops) (evalEach (r :: r' :: rs) X.env)) (TP X pins σ Q) X.xe s)
    (fun d M1 v G1 H1 hc s1 h1 dv => hc.run W tk σ G1 H1 v (hE.up s1.gg) h1 dv Q (hP.step s1) (hX.step s1)) hX
  exact isTrue_chain (thnT k (hA pins s k I) fun u s1 k1 ⟨v, H1, I1, r1, q⟩ => q pins s1 u k1 I1 r1) hm
theorem tch_link (h : EX X T r τ M (fun y M1 => OP X T (compareOp op) x y M1 (fun d M2 => ∃ k, d = .bl k ∧ ((k = true → TCh X T pos (op' :: ops) (r' :: rs) y τ M2 Pb E) ∧ (k = false → Pb false M2)))) E) : TCh X T pos (op :: op' :: ops) (r :: r' :: rs) x τ M Pb E := .mk fun W tk σ G H v hE hH dx Q hP hX pins s u k I rx => by
  have hA := h.run W tk σ G H hE hH (fun y H1 => rW X T (compareOp op) v y H1 (fun z H3 => ∃ b, z = .bl b ∧ if b = true then (∀ pins s u2, Tk T s → Inv X pins σ H3 s → RelV y u2 → wpAny (model X.prog X.w) X.A (testChain pos u2 (op' :: ops) (evalEach (r' :: rs) X.env)) (TP X pins σ Q) X.xe s) else Q false H3))
    (fun d M1 y G1 H1 ho s1 h1 dy => ho G1 H1 v y h1 (dx.up s1.gg) dy _ (fun d M2 z G2 H2 ⟨b, eb, h2, h3⟩ s2 hs2 dz => by
      subst eb
      refine ⟨b, dz.bl_inv, ?_⟩
      cases b with
      | true => exact iteT ((h2 rfl).run W tk σ G2 H2 y (hE.up (s1.trans s2).gg) hs2 (dy.up s2.gg) Q (hP.step (s1.trans s2)) (hX.step (s1.trans s2)))
      | false => exact iteF (hP _ _ _ _ (h3 rfl) (s1.trans s2) hs2))) hX
  refine test_link (thnT k (hA pins s k I) fun u2 s1 k1 ⟨y, H1, I1, r1, q⟩ => thnT k1 (q pins s1 σ u u2 k1 I1 rx r1) fun cv s2 k2 ⟨z, H2, I2, r2, b, eb, q2⟩ => ?_)
  subst eb
  cases r2
  refine wpAny_truthy_bool ?_
  cases b with
  | true => exact iteT (q2 pins s2 u2 k2 I2 r1)
  | false => exact iteF ⟨H2, I2, q2⟩
theorem tch_last (h : EX X T r τ M (fun y M1 => OP X T (compareOp op) x y M1 (fun d M2 => ∃ k, d = .bl k ∧ Pb k M2)) E) : TCh X T pos [op] [r] x τ M Pb E := .mk fun W tk σ G H v hE hH dx Q hP hX pins s u k I rx => by
  have hA := h.run W tk σ G H hE hH (fun y H1 => rW X T (compareOp op) v y H1 (fun z H3 => ∃ b, z = .bl b ∧ Q b H3))
    (fun d M1 y G1 H1 ho s1 h1 dy => ho G1 H1 v y h1 (dx.up s1.gg) dy _ (fun d M2 z G2 H2 ⟨b, eb, h2⟩ s2 hs2 dz => by
      subst eb
      exact ⟨b, dz.bl_inv, hP _ _ _ _ h2 (s1.trans s2) hs2⟩)) hX
  refine test_last (thnT k (hA pins s k I) fun u2 s1 k1 ⟨y, H1, I1, r1, q⟩ => thn (q pins s1 σ u u2 k1 I1 rx r1) fun cv s2 ⟨z, H2, I2, r2, b, eb, q2⟩ => ?_)
  subst eb
  cases r2
  exact wpAny_truthy_bool ⟨H2, I2, q2⟩
theorem ex_chain (h : EX X T a τ M (fun x M1 => VCh X T pos (op :: op' :: ops) (r :: r' :: rs) x τ M1 P E) E) (hm : lastMarks (op :: op' :: ops) (r :: r' :: rs) = false := by with_unfolding_all rfl) :
    EX X T (.Compare a (op :: op' :: ops) (r :: r' :: rs) pos) τ M P E := .mk fun W tk σ G H hE hH Q hP hX pins s k I => by
  have hA := h.run W tk σ G H hE hH (fun v H1 => ∀ pins s u, Tk T s → Inv X pins σ H1 s → RelV v u → wpAny (model X.prog X.w) X.A (compareChain pos u (op :: op' :: ops) (evalEach (r :: r' :: rs) X.env)) (EP X pins σ Q) X.xe s)
    (fun d M1 v G1 H1 hc s1 h1 dv => hc.run W tk σ G1 H1 v (hE.up s1.gg) h1 dv Q (hP.step s1) (hX.step s1)) hX
  exact Compare_chain (thnT k (hA pins s k I) fun u s1 k1 ⟨v, H1, I1, r1, q⟩ => q pins s1 u k1 I1 r1) hm
theorem vch_link (h : EX X T r τ M (fun y M1 => OP X T (compareOp op) x y M1 (fun d M2 => ∃ k, d = .bl k ∧ ((k = true → VCh X T pos (op' :: ops) (r' :: rs) y τ M2 P E) ∧ (k = false → P (.bl false) M2)))) E) : VCh X T pos (op :: op' :: ops) (r :: r' :: rs) x τ M P E := .mk fun W tk σ G H v hE hH dx Q hP hX pins s u k I rx => by
  have hA := h.run W tk σ G H hE hH (fun y H1 => rW X T (compareOp op) v y H1 (fun z H3 => ∃ b, z = .bl b ∧ if b = true then (∀ pins s u2, Tk T s → Inv X pins σ H3 s → RelV y u2 → wpAny (model X.prog X.w) X.A (compareChain pos u2 (op' :: ops) (evalEach (r' :: rs) X.env)) (EP X pins σ Q) X.xe s) else Q (.bl false) H3))
    (fun d M1 y G1 H1 ho s1 h1 dy => ho G1 H1 v y h1 (dx.up s1.gg) dy _ (fun d M2 z G2 H2 ⟨b, eb, h2, h3⟩ s2 hs2 dz => by
      subst eb
      refine ⟨b, dz.bl_inv, ?_⟩
      cases b with
      | true => exact iteT ((h2 rfl).run W tk σ G2 H2 y (hE.up (s1.trans s2).gg) hs2 (dy.up s2.gg) Q (hP.step (s1.trans s2)) (hX.step (s1.trans s2)))
      | false => exact iteF (hP _ _ _ _ _ (h3 rfl) (s1.trans s2) hs2 den_bl))) hX
  refine chain_link (thnT k (hA pins s k I) fun u2 s1 k1 ⟨y, H1, I1, r1, q⟩ => thnT k1 (q pins s1 σ u u2 k1 I1 rx r1) fun cv s2 k2 ⟨z, H2, I2, r2, b, eb, q2⟩ => ?_)
  subst eb
  cases r2
  refine wpAny_truthy_bool ?_
  cases b with
  | true => exact iteT (q2 pins s2 u2 k2 I2 r1)
  | false => exact iteF ⟨.bl false, H2, I2, rfl, q2⟩
theorem vch_last (h : EX X T r τ M (fun y M1 => OP X T (compareOp op) x y M1 P) E) : VCh X T pos [op] [r] x τ M P E := .mk fun W tk σ G H v hE hH dx Q hP hX pins s u k I rx => by
  have hA := h.run W tk σ G H hE hH (fun y H1 => rW X T (compareOp op) v y H1 Q)
    (fun d M1 y G1 H1 ho s1 h1 dy => ho G1 H1 v y h1 (dx.up s1.gg) dy _ (hP.step s1)) hX
  exact chain_last (thnT k (hA pins s k I) fun u2 s1 k1 ⟨y, H1, I1, r1, q⟩ => q pins s1 σ u u2 k1 I1 rx r1)
end
end Kh

set_option Elab.async false
set_option linter.all false
set_option maxRecDepth 100000
set_option maxHeartbeats 1000000
namespace Kh
open PySem PySem.Spec L2
/-! ### enumerate(a text) -/
def Ites (z : Str) : It := ⟨fun i _ => i < z.cps.size, fun i H v H' => ∃ T c, z.cps[i]? = some c ∧ v = .ref T ∧ H T = none ∧ H' = upd H T (.tup [.int (i : Nat), .str ⟨#[c]⟩]), fun i _ => z.cps.size ≤ i⟩
section
variable {prog : Program} {w : World} {A : Around} {E : Value → Shared → Prop} {s : Shared}
theorem draws_str (hh : A.handled = none) (it : Addr) (x : Str) (t : Tok) : Draws prog w A it [it] x.cps.size (fun i v => ∃ c u, x.cps[i]? = some c ∧ v = .str ⟨#[c]⟩ u) (fun i h => h.IsStrIter it (strIterType x) x t i) := by
  cases ha : x.cps.all (· < 128)
  · have e : strIterType x = "str_iterator" := by simp [strIterType, ha]
    rw [e]; exact Draws.strWide hh it x t
  · have e : strIterType x = "str_ascii_iterator" := by simp [strIterType, ha]
    rw [e]; exact Draws.strAscii hh it x t
theorem strU_end {it : Addr} {x : Str} {t : Tok} {i : Nat} {Q : Value → Shared → Prop} (hh : A.handled = none) (hit : s.heap.IsStrIter it (strIterType x) x t i) (hx : x.cps[i]? = none)
    (hE : ∀ h' e, Heap.ExtBut it s.heap h' → (∃ o, h'.get? e = some o ∧ o.cls = .type "StopIteration") → E (.ref e) { s with heap := h' }) : wpAny (model prog w) A (Builtin.SmallTypes.nextOf (.ref it)) Q E s := by
  cases ha : x.cps.all (· < 128)
  · have e : strIterType x = "str_iterator" := by simp [strIterType, ha]
    rw [e] at hit; exact wpAny_nextOf_wide_end hh hit hx hE
  · have e : strIterType x = "str_ascii_iterator" := by simp [strIterType, ha]
    rw [e] at hit; exact wpAny_nextOf_ascii_end hh hit hx hE
theorem enumS_end {e it : Addr} {i : Nat} {x : Str} {t : Tok} {old : Value} {Q : Option Value → Shared → Prop} (hh : A.handled = none) (he : IsEnum s.heap e it (i : Int) old) (hit : s.heap.IsStrIter it (strIterType x) x t i) (hx : x.cps[i]? = none)
    (hQ : ∀ h', Heap.ExtBut it s.heap h' → Q none { s with heap := h' }) : wpAny (model prog w) A (pyNext (.ref e)) Q E s := by
  have hT : s.TypeIs (.ref e) "enumerate" := ⟨_, he, rfl⟩
  unfold pyNext
  refine wpAny_bind (wpAny_attempt (wpAny_callSpecial?_slot (name := Str.ofString "__next__") hT F.slot_enumerate_next
    (wpAny_call_entry F.slot_enumerate_next hT F.entry_enumerate_next ?_ (F.args_enumerate_next_1 _))))
  show wpAny _ _ (field (.ref e) 2 >>= _) _ _ _
  refine wpAny_bind (wpAny_field he rfl (x := .ref it) rfl ?_)
  refine wpAny_bind (strU_end (A := A.in1) hh hit hx fun h' x he' hx' => ?_)
  obtain ⟨o, ho, hc⟩ := hx'
  refine wpAny_bind (wpAny_isInstance (T := "StopIteration") (b := true) ⟨o, ho, hc⟩ isSubtype_stop ?_)
  exact wpAny_pure (hQ _ he')
end
theorem turn_enumS {P : Program} {w : World} {K : PySem.W.Frag} {elts : List Expr} {kk : Nat} {tpos : Pos} (z : Str) (t : Tok) (e it : Addr) :
    Turn P w K (.Tuple elts kk tpos) (Ites z) [e, it] e (fun i h => (∃ old, IsEnum h e it ((i : Nat) : Int) old) ∧ h.IsStrIter it (strIterType z) z t i ∧ e ≠ it) where
  mem := by simp
  obj := fun i h st b hb => by
    obtain ⟨⟨old, he⟩, ⟨o, ho, hc, hd⟩, _⟩ := st
    have e' : b = e ∨ b = it := by simpa using hb
    rcases e' with z | z
    · rw [z]; exact ⟨_, he, fun v q => nomatch q⟩
    · rw [z]; exact ⟨o, ho, fun v q => by rw [hd] at q; cases q⟩
  keep := fun i h h' st k => let ⟨⟨old, he⟩, ⟨o, ho, r⟩, hne⟩ := st; ⟨⟨old, k e (by simp) _ he⟩, ⟨o, k it (by simp) o ho, r⟩, hne⟩
  item := by
    intro X hP hw hK hc i pins s σ H E I hf st hg
    subst hP hw hK
    obtain ⟨⟨old, he⟩, hit, hne⟩ := st
    have hel : e < s.heap.objs.size := Heap.lt_size he
    have hil : it < s.heap.objs.size := by obtain ⟨_, q, _⟩ := hit; exact Heap.lt_size q
    refine wpAny_pyNext_enum_itemD (draws_str (prog := X.prog) (w := X.w) (A := X.A.in1) (I.ok.hd hc) it z t) he hit hg hne (by simpa using hne) fun x h' tk hPx ho hit' hT hsz hk => ?_
    obtain ⟨c, u, hcx, rfl⟩ := hPx
    refine ⟨_, rfl, wpAny_letOwnedTupleGo_enum (s := { s with heap := h', toks := tk + 1 }) ho fun h'' he' sb => ?_⟩
    have hT2 : h''.get? s.heap.objs.size = some { cls := .type "tuple", data := .seq #[.int i tk, .str ⟨#[c]⟩ u] } := (sb.2 _ (Nat.ne_of_gt hel)).trans hT
    have new : ObjOk X.prog X.w (upd H s.heap.objs.size (.tup [.int (i : Nat), .str ⟨#[c]⟩])) h'' s.heap.objs.size (.tup [.int (i : Nat), .str ⟨#[c]⟩]) :=
      ⟨by show 2 ≤ sizeLine; decide, [.int i tk, .str ⟨#[c]⟩ u], .cons ⟨_, rfl⟩ (.cons ⟨_, rfl⟩ .nil), ⟨_, hT2, rfl, _, rfl⟩⟩
    have I1 : Inv X pins σ (upd H s.heap.objs.size (.tup [.int (i : Nat), .str ⟨#[c]⟩])) { s with heap := h'', toks := tk + 1 } :=
      I.turnedNew (ch := [e, it]) (fun b ob hb q => (sb.2 b (fun z => hb (by simp [z]))).trans (hk b ob (fun z => hb (by simp [z])) (fun z => hb (by simp [z])) q)) hf (Nat.le_refl _) new
    refine ⟨.ref s.heap.objs.size, _, I1, rfl, ⟨_, c, hcx, rfl, I.hok.fresh (Nat.le_refl _), rfl⟩, ⟨⟨.str ⟨#[c]⟩ u, ?_⟩, ?_, hne⟩, fun b hb => ?_⟩
    · have e1 : ((i + 1 : Nat) : Int) = (i : Int) + 1 := by omega
      rw [e1]; exact he'
    · obtain ⟨o, ho2, r⟩ := hit'
      exact ⟨o, (sb.2 it (Ne.symm hne)).trans ho2, r⟩
    · have hb' : b < s.heap.objs.size := by
        have e' : b = e ∨ b = it := by simpa using hb
        rcases e' with z | z
        · rw [z]; exact hel
        · rw [z]; exact hil
      rw [upd_ne (Nat.ne_of_lt hb')]
      exact (hf b hb).1
  done := by
    intro X hP hw hK hc i pins s σ H E I hf st hg
    subst hP hw hK
    obtain ⟨⟨old, he⟩, hit, hne⟩ := st
    obtain ⟨f0, f1, f2, f3, f4, f5⟩ := hf it (by simp)
    exact enumS_end (I.ok.hd hc) he hit (Array.getElem?_eq_none hg) fun h' eb => ⟨rfl, I.turned (t' := s.toks) (fun b o hb q => eb b o hb q) f0 f1 f3 f4 f5⟩
  self := fun A i s Q E st h => let ⟨⟨_, he⟩, _⟩ := st; wpAny_pyIter_enum he h
def iEnumS (ta : TA) : TI := fun σ H R => ta σ H fun vs H1 => ∃ z, vs = [.str z] ∧ R (Ites z) H1
theorem pi_enumS {X : Cx} {e : Expr} {ta : TA} {p pos tpos : Pos} {elts : List Expr} {kk : Nat} (hg : Gl X "enumerate") (hm : X.mg "enumerate" = none) (ha : PA X [e] ta) (hs : starEach [e] X.env = [(false, eval e X.env)] := by rfl) :
    PI X (.Tuple elts kk tpos) (.Call (.Name "enumerate" p) [e] [] pos) (iEnumS ta) := by
  refine ⟨fun pins s σ H R I h => ?_⟩
  refine Call_ (ld_blt I hg hm PyProof.Rows.boot_enumerate (PyProof.Rows.callWith_type1 (thn (ha.run pos pins s σ H _ I h) fun us s1 ⟨vs, H1, I1, r1, q1⟩ => ?_) hs rfl))
  obtain ⟨z, ex, q⟩ := q1
  subst ex
  cases r1 with
  | cons r rr =>
    cases rr
    obtain ⟨t, rfl⟩ := r
    refine call_enumerate_str fun h' he hit hsz hk => wpAny_pyIter_enum he ?_
    have I2 : Inv X pins σ H1 { s1 with heap := h' } := I1.kept (t' := s1.toks) hk
    refine ⟨s1.heap.objs.size + 1, [s1.heap.objs.size + 1, s1.heap.objs.size], _, _, H1, rfl, I2, turn_enumS z t (s1.heap.objs.size + 1) s1.heap.objs.size, ⟨⟨.none, he⟩, hit, Nat.succ_ne_self _⟩, fun b hb => ?_, q⟩
    have e' : b = s1.heap.objs.size + 1 ∨ b = s1.heap.objs.size := by simpa using hb
    have hle : s1.heap.objs.size ≤ b := by
      rcases e' with z | z
      · rw [z]; exact Nat.le_add_right _ _
      · rw [z]; exact Nat.le_refl _
    exact I1.fpOk hle (I1.hok.fresh hle)
where
  Call_ := @PyProof.Rows.Call_
theorem walkD_enumS {K : PySem.W.Frag} {G1 : Hp} {z : Str} : WalkD K (Ites z) ((enumL (signsL z)).map (pairD Dat.int chD)) G1 anyM := fun G2 M2 H2 s h _ => by
  have hl : ((enumL (signsL z)).map (pairD Dat.int chD)).length = z.cps.size := by simp [enumL]
  rw [hl]
  refine ⟨fun i hi => hi, Nat.le_refl _, fun i x H' hi y => ?_⟩
  obtain ⟨T, c, h1, rfl, hT, rfl⟩ := y
  obtain ⟨s3, h3⟩ := Stp.new (o := .tup [.int (i : Nat), .str ⟨#[c]⟩]) h hT
  refine ⟨_, s3, h3, fun d hd => ?_⟩
  have hc : (signsL z)[i]? = some c := by rw [Array.getElem?_toList]; exact h1
  have : d = pairD Dat.int chD ((i : Int), c) := by
    simp only [enumL, List.map_map, List.getElem?_map, List.getElem?_zipIdx, hc] at hd
    simpa using hd.symm
  subst this
  exact den_tup upd_same (.cons den_int (.cons den_str .nil))
section
variable {X : Cx} {T : Bool} {τ : TEnv} {M A B : Mem} {P : PK'} {E : XKx} {e a b c o : Expr} {es : List Expr} {pos p apos tpos : Pos} {α β σ ρ : Type} {E1 : Er → Prop} {q : Addr} {ss : List Stmt} {R : RK} {PI' : List Dat → Mem → (Mem → Prop) → Prop} {tg : Expr}
theorem ei_enumS {elts : List Expr} {kk : Nat} {tpos : Pos} (hm : X.mg "enumerate" = none) (h : EX X false e τ M (fun d M1 => ∃ z, d = .str z ∧ PI' ((enumL (signsL z)).map (pairD Dat.int chD)) M1 anyM) E) (hg : Gl X "enumerate" := by rfl) (hs : starEach [e] X.env = [(false, eval e X.env)] := by rfl) :
    EI X (.Tuple elts kk tpos) (.Call (.Name "enumerate" p) [e] [] pos) τ M PI' E := .mk fun W tk σ G H hE hH R hR hX => by
  refine tWI_of (pi_enumS hg hm (pa_cons pe_W pa_nil hs) hs) ?_
  refine h.run W tk σ G H hE hH _ ?_ hX
  intro d M1 v G1 H1 ⟨z, ed, hp⟩ s1 h1 dv
  subst ed
  exact ⟨z, by rw [dv.str_inv], hR _ _ _ _ _ _ hp s1 h1 walkD_enumS⟩
theorem rng3_RgC {i j c : Int} (h : rng3ok i j c) : RgC i j c ((j - i + c - 1) / c).toNat := by
  obtain ⟨⟨⟨h1, h2⟩, h3, h4⟩, h5, h6⟩ := h
  have e1 : j - i + c - 1 = (j - i - 1) + 1 * c := by omega
  have hs : Builtin.Range.rangeSize i j c = (((j - i + c - 1) / c).toNat : Int) := by
    unfold Builtin.Range.rangeSize
    rw [if_pos (by omega), e1, Int.add_mul_ediv_right _ _ (by omega)]
    split
    · have := Int.ediv_nonneg (a := j - i - 1) (b := c) (by omega) (by omega)
      omega
    · have := Int.ediv_neg_of_neg_of_pos (a := j - i - 1) (b := c) (by omega) (by omega)
      omega
  refine ⟨by omega, by omega, ?_, hs⟩
  have hn : (((j - i + c - 1) / c).toNat : Int) ≤ 2 ^ 63 := by
    by_cases e : i < j
    · have := Int.ediv_le_self c (show (0 : Int) ≤ j - i - 1 by omega)
      rw [e1, Int.add_mul_ediv_right _ _ (by omega)]
      omega
    · have := Int.ediv_neg_of_neg_of_pos (a := j - i - 1) (b := c) (by omega) (by omega)
      rw [e1, Int.add_mul_ediv_right _ _ (by omega)]
      omega
  unfold Builtin.Range.small
  rw [hs]
  have hn2 : (((j - i + c - 1) / c).toNat : Int) < 2 ^ 63 := by
    rw [e1, Int.add_mul_ediv_right _ _ (by omega)]
    by_cases e : i < j
    · have := Int.ediv_le_self c (show (0 : Int) ≤ j - i - 1 by omega)
      omega
    · have := Int.ediv_neg_of_neg_of_pos (a := j - i - 1) (b := c) (by omega) (by omega)
      omega
  simp only [Builtin.Range.rangeFitsLong, Bool.and_eq_true, Bool.or_eq_true, decide_eq_true_eq, beq_iff_eq]
  have hn0 : (0 : Int) ≤ (((j - i + c - 1) / c).toNat : Int) := Int.natCast_nonneg _
  generalize (((j - i + c - 1) / c).toNat : Int) = n at *
  rw [if_pos (show c > 0 by omega)]
  simp only [Bool.and_eq_true, decide_eq_true_eq]
  omega
theorem ei_rng3 (hm : X.mg "range" = none) (h : EX X false a τ M (fun d M1 => EX X false b τ M1 (fun d2 M2 => EX X false c τ M2 (fun d3 M3 => ∃ i j k, d = .int i ∧ d2 = .int j ∧ d3 = .int k ∧ rng3ok i j k ∧ PI' ((rangeC i k ((j - i + k - 1) / k).toNat).map Dat.int) M3 anyM) E) E) E) (hg : Gl X "range" := by rfl)
    (hs : starEach [a, b, c] X.env = (false, eval a X.env) :: starEach [b, c] X.env := by rfl) (hs2 : starEach [b, c] X.env = (false, eval b X.env) :: starEach [c] X.env := by rfl) (hs3 : starEach [c] X.env = (false, eval c X.env) :: starEach [] X.env := by rfl) (hpl : (backTo pos (starEach [b, c] X.env)).any (·.1) = false := by rfl) :
    EI X tg (.Call (.Name "range" p) [a, b, c] [] pos) τ M PI' E :=
  ei_range3 hm (h.imp (fun d M1 h1 => h1.imp (fun d2 M2 h2 => h2.imp (fun d3 M3 ⟨i, j, k, e1, e2, e3, hr, hp⟩ => ⟨i, j, k, _, e1, e2, e3, rng3_RgC hr, by rw [rngC_map]; exact hp⟩) fun _ _ x => x) fun _ _ x => x) fun _ _ x => x) hg hs hs2 hs3 hpl
/-! ### a list cell that is changed no more, under one name -/
theorem ws_frz {ds : List Dat} {M3 : Mem} (i : Nat) (ht : τ[i]? = some (some (.raw (.ref q)))) (pm : M.Perm ((q, .lst ds) :: M3)) (h : WS X T ss (τ.set i (some (.lst ds))) M3 R) : WS X T ss τ M R := .mk fun W tk σ G H hE hH D hR => by
  obtain ⟨G', s3, h3, d3⟩ := freezeL (hH.perm pm)
  have sA : Stp G M H G' M3 H := (Stp.refl.perm (List.Perm.refl _) pm).trans s3
  refine h.run W tk σ G' H (fun j d hj => ?_) h3 D (hR.step sA)
  by_cases c : i = j
  · subst c
    have hl : i < τ.length := (List.getElem?_eq_some_iff.mp ht).1
    rw [List.getElem?_set_self hl] at hj
    cases hj
    obtain ⟨v, e1, e2⟩ := hE i _ ht
    rw [e2.raw_inv] at e1
    exact ⟨_, e1, d3⟩
  · rw [List.getElem?_set_ne c] at hj
    obtain ⟨v, e1, e2⟩ := hE j d hj
    exact ⟨v, e1, e2.up sA.gg⟩
/-! ### texts -/
def preplS (x y z : Str) : Res Str := guard (x.length + (x.length + 1) * z.length ≤ 16777216) (Txt.replace x y z)
theorem ex_repl {y z : Str} {j k : Nat} {c0 c1 : Pos} (h : EX X true o τ M (fun d M1 => ∃ x Q E1, d = .str x ∧ (preplS x y z).Out Q E1 ∧ ∀ r, Q r → P (.str r) M1) E) (hyz : (y == z) = false := by decide)
    (hst : starEach [.Constant (.str y) j c0, .Constant (.str z) k c1] X.env = [(false, eval (.Constant (.str y) j c0) X.env), (false, eval (.Constant (.str z) k c1) X.env)] := by rfl)
    (hbase : attributeBase o "replace" X.env (eval o X.env) = eval o X.env := by rfl) (hline : (apos.endLine == pos.line) = true := by rfl) :
    EX X true (.Call (.Attribute o "replace" apos) [.Constant (.str y) j c0, .Constant (.str z) k c1] [] pos) τ M P E := .mk fun W tk σ G H hE hH Q hP hX pins s kt I => by
  have hO := h.run W tk σ G H hE hH (fun v H1 => ∃ x, v = .str x ∧ x.length + (x.length + 1) * z.length ≤ 16777216 ∧ Q (.str (Txt.replace x y z)) H1) (fun d M1 v G1 H1 ⟨x, Q', E1, ed, hg, hk⟩ s1 h1 dv => by
    subst ed
    exact ⟨x, dv.str_inv, (gd hg).1, hP _ _ _ _ _ (hk _ (gd hg).2) s1 h1 den_str⟩) hX
  exact CwR.pet_replT (to := tW X true o) (fun pins s σ H Q h0 I h => h pins s (fun _ => h0) I) hyz hst hbase hline pins s σ H Q (kt rfl) I hO
def pjoin (a : Str) (ys : List Str) : Res Str := guard ((ys.map (·.length)).sum + ys.length * a.length ≤ 16777216) (Txt.join a ys)
theorem r_join {a : Str} {xs : List Dat} (ys : List Str) (he : xs = ys.map Dat.str) {Q : Str → Prop} (h : (pjoin a ys).Out Q E1) (hk : ∀ r, Q r → P (.str r) M) : BMr X "str.join" (.str a) [.lst xs] M P :=
  ⟨_, mt_join, fun G H v vs hH dv dvs Q' hP => by
    subst he
    obtain ⟨u, rfl, d2⟩ := one_inv dvs
    obtain ⟨p, ws, rfl, g, dl⟩ := d2.lst_inv
    have ew := DenL.strs dl
    subst ew
    exact ⟨a, p, ys, dv.str_inv, rfl, .inl (SqL.of (hH.sub _ _ g)), (gd h).1, hP _ _ _ _ _ (hk _ (gd h).2) Stp.refl hH den_str⟩⟩
theorem r_joinS {a : Str} {xs : List Str} {Q : Str → Prop} (h : (pjoin a xs).Out Q E1) (hk : ∀ r, Q r → P (.str r) M) : BMr X "str.join" (.str a) [lstD Dat.str xs] M P := r_join xs rfl h hk
theorem r_joinC {a : Str} {xs : List Nat} {Q : Str → Prop} (h : (pjoin a (xs.map chS)).Out Q E1) (hk : ∀ r, Q r → P (.str r) M) : BMr X "str.join" (.str a) [lstD chD xs] M P := r_join (xs.map chS) (by rw [List.map_map]; rfl) h hk
theorem ex_join (h : EX X T o τ M (fun d M1 => TyB X.K M1 d "str" ∧ EA X T (e :: es) τ M1 (fun ds M2 => BMr X "str.join" d ds M2 P) E) E)
    (hbase : attributeBase o "join" X.env (eval o X.env) = eval o X.env := by rfl)
    (hfew : ((backTo tpos (starEach (e :: es) X.env)).all (fun x => !x.1) && (backToKw tpos (keywordEach [] X.env)).all (fun x => x.1.isSome) && decide ((e :: es).length + ([] : List Keyword).length + (if ([] : List Keyword).isEmpty then 0 else 1) < 30)) = true := by rfl)
    (hline : (apos.endLine == tpos.line) = true := by rfl) (hs : starEach (e :: es) X.env = (false, eval e X.env) :: starEach es X.env := by rfl) (hplain : (backTo tpos (starEach es X.env)).any (·.1) = false := by rfl) :
    EX X T (.Call (.Attribute o "join" apos) (e :: es) [] tpos) τ M P E := ex_bm PySem.F.plainAttrs_str PySem.F.slot_str_join PySem.F.type_str_join h hbase hfew hline hs hplain
theorem ex_count (h : EX X T o τ M (fun d M1 => TyB X.K M1 d "str" ∧ EA X T (e :: es) τ M1 (fun ds M2 => BMr X "str.count" d ds M2 P) E) E)
    (hbase : attributeBase o "count" X.env (eval o X.env) = eval o X.env := by rfl)
    (hfew : ((backTo tpos (starEach (e :: es) X.env)).all (fun x => !x.1) && (backToKw tpos (keywordEach [] X.env)).all (fun x => x.1.isSome) && decide ((e :: es).length + ([] : List Keyword).length + (if ([] : List Keyword).isEmpty then 0 else 1) < 30)) = true := by rfl)
    (hline : (apos.endLine == tpos.line) = true := by rfl) (hs : starEach (e :: es) X.env = (false, eval e X.env) :: starEach es X.env := by rfl) (hplain : (backTo tpos (starEach es X.env)).any (·.1) = false := by rfl) :
    EX X T (.Call (.Attribute o "count" apos) (e :: es) [] tpos) τ M P E := ex_bm PySem.F.plainAttrs_str PySem.F.slot_str_count PySem.F.type_str_count h hbase hfew hline hs hplain
theorem r_count {a b : Str} (h : P (.int (Txt.count a b)) M) : BMr X "str.count" (.str a) [.str b] M P :=
  ⟨_, mt_count, fun G H v vs hH dv dvs Q' hP => by
    obtain ⟨u, rfl, d2⟩ := one_inv dvs
    exact ⟨a, b, dv.str_inv, by rw [d2.str_inv], hP _ _ _ _ _ h Stp.refl hH den_int⟩⟩
/-! ### a list against [] -/
theorem r_eqNil {xs : List Dat} (hu : X.A.units + 64 < cLine) (h : P (.bl xs.isEmpty) M) : OP X T (compareOp .Eq) (.lst xs) (.lst []) M P := by
  cases xs with
  | nil => exact o_eqLT rfl (by decide) hu h
  | cons x xs => exact o_eqLn (by simp) hu h
theorem r_neNil {xs : List Dat} (hu : X.A.units + 64 < cLine) (h : P (.bl (!xs.isEmpty)) M) : OP X T (compareOp .NotEq) (.lst xs) (.lst []) M P := by
  cases xs with
  | nil => exact o_neLT rfl (by decide) hu h
  | cons x xs => exact o_neLn (by simp) hu h
theorem isE_map {f : α → Dat} {xs : List α} : (xs.map f).isEmpty = xs.isEmpty := by cases xs <;> rfl
theorem r_eqNilT (f : α → Dat) {xs : List α} (hu : X.A.units + 64 < cLine) (h : P (.bl xs.isEmpty) M) : OP X T (compareOp .Eq) (lstD f xs) (.lst []) M P := r_eqNil hu (by rw [isE_map]; exact h)
theorem r_neNilT (f : α → Dat) {xs : List α} (hu : X.A.units + 64 < cLine) (h : P (.bl (!xs.isEmpty)) M) : OP X T (compareOp .NotEq) (lstD f xs) (.lst []) M P := r_neNil hu (by rw [isE_map]; exact h)
end
theorem c_isx {X : Cx} {M : Mem} {P : PK'} {d : Dat} {cv : V} {u : Value} {k : Bool} (hc : ClsV cv u) (ht : ∃ t, (∀ M, TyD X.K M d t) ∧ PySem.W.kitOne X.K t u = some k) (h : P (.bl k) M) : BC X (.builtin "isinstance") [d, .raw cv] M P :=
  let ⟨_, h1, h2⟩ := ht
  c_isi hc (h1 M) h2 h
/-! ### methods of own classes -/
theorem FnOk.mono {P : Program} {w : World} {K : PySem.W.Frag} {mg : Str → Option Value} {base : Heap} {k : Nat} {f : Addr} {fd : FuncData} {ps : List Str} {CX : CXT} {sp sp' : Sp} (h : FnOk P w K mg base CX k f fd ps sp) (hi : ∀ vs H Q E, sp' vs H Q E → sp vs H Q E) : FnOk P w K mg base CX k f fd ps sp' :=
  ⟨fun vs H Q E q => h.len vs H Q E (hi _ _ _ _ q), fun A outer s H args us vs Q E hr e0 hb r hsp => h.run A outer s H args us vs Q E hr e0 hb r (hi _ _ _ _ hsp)⟩
theorem FnD.mono {P : Program} {w : World} {K : PySem.W.Frag} {mg : Str → Option Value} {base : Heap} {k : Nat} {f : Addr} {fd : FuncData} {ps : List Str} {S S' : Spc} (h : FnD P w K mg base k f fd ps S) (hi : ∀ ds M Pd PE, S' ds M Pd PE → S ds M Pd PE) : FnD P w K mg base k f fd ps S' :=
  FnOk.mono h fun vs H Q E ⟨G, ds, M, Pd, PE, h1, h2, h3, h4, h5⟩ => ⟨G, ds, M, Pd, PE, h1, h2, hi _ _ _ _ h3, h4, h5⟩
/-- the method m of instances of the class at C keeps S, around A -/
structure MO (P : Program) (w : World) (K : PySem.W.Frag) (mg : Str → Option Value) (base : Heap) (A : Around) (C : Addr) (m : Str) (S : Spc) : Prop where
  ex : ∃ k g fd ps, Cls K C ∧ Meth K C m g ∧ FnD P w K mg base k g fd ps S ∧ Room k A ∧ Binds K fd ps []
section
variable {X : Cx} {T : Bool} {τ : TEnv} {M : Mem} {P : PK'} {E : XKx} {e o : Expr} {es : List Expr} {pos p apos : Pos} {m : Str}
theorem ex_mv {pl : Sem Bool} (h : EX X T o τ M (fun d M1 => ∃ C S, MO X.prog X.w X.K X.mg X.base X.A C m S ∧ IsI C m M1 d ∧ EA X T (e :: es) τ M1 (fun ds M2 => AP S (d :: ds) M2 P E) E) E)
    (ht : eval (.Call (.Attribute o m apos) (e :: es) [] pos) X.env = (do let ov ← eval o X.env; standAt apos.atName; let (f, first) ← holding [ov] (getMethod ov m pl); callWith pos f first (backTo pos (starEach (e :: es) X.env)) []) := by rfl)
    (he : starEach (e :: es) X.env = (false, eval e X.env) :: starEach es X.env := by rfl) (hpl : (backTo pos (starEach es X.env)).any (·.1) = false := by rfl) :
    EX X T (.Call (.Attribute o m apos) (e :: es) [] pos) τ M P E := by
  refine .mk ?_; intro W tk σ G H hE hH Q hP hX pins s k0 I
  have hO := h.run W tk σ G H hE hH (fun x H1 => ∃ a C S dx fs, MO X.prog X.w X.K X.mg X.base X.A C m S ∧ x = .ref a ∧ H1 a = some (.ins C dx fs) ∧ fs.lookup m = none ∧ tWA X T (e :: es) σ H1 fun vs H2 => toSp X.K S (x :: vs) H2 Q (fun c d H3 => W c d σ H3)) (fun d M1 v G1 H1 ⟨C, S, mo, hi, ha⟩ s1 h1 dv => by
    obtain ⟨a, dx, fs, e1, e2, e3⟩ := hi.get h1 dv
    exact ⟨a, C, S, dx, fs, mo, e1, e2, e3, ha.run W tk σ G1 H1 (hE.up s1.gg) h1 _ (fun ds M2 vs G2 H2 hp s2 h2 dvs2 => ap_toSp hp (.cons (dv.up s2.gg) dvs2) h2 (hP.step (s1.trans s2)) (hX.step (s1.trans s2))) (hX.step s1)⟩) hX
  refine PySem.W.methodCall_KW (pl := pl) (thnT k0 (hO pins s k0 I) fun u s1 k1 ⟨x, H1, I1, rx, a, C, S, dx, fs, mo, ex, ea, l, q⟩ => ?_) ht
  subst ex
  obtain rfl : u = Value.ref a := rx
  obtain ⟨k, g, fd, ps, c, hm, F, hr, hb⟩ := mo.ex
  refine getmeth_ok I1 ea c hm l ?_
  refine PySem.W.callWith_K (h₀ := X.base) (first := [.ref a]) I1.ok.mod.kin hm.kp (thn (q pos pins s1 k1 I1) fun us s2 ⟨vs, H2, I2, r, q2⟩ => ⟨I2.kIn, ?_⟩) he hpl
  exact run_d (us := .ref a :: us) (vs := .ref a :: vs) (dsv := []) (dvs := []) F hr hb .nil tk I2 (.cons rfl r) (by rw [List.append_nil]; exact q2)
theorem ex_mv0 {pl : Sem Bool} (h : EX X T o τ M (fun d M1 => ∃ C S, MO X.prog X.w X.K X.mg X.base X.A C m S ∧ IsI C m M1 d ∧ AP S [d] M1 P E) E)
    (ht : eval (.Call (.Attribute o m apos) [] [] pos) X.env = (do let ov ← eval o X.env; standAt apos.atName; let (f, first) ← holding [ov] (getMethod ov m pl); callWith pos f first (backTo pos (starEach [] X.env)) []) := by rfl) :
    EX X T (.Call (.Attribute o m apos) [] [] pos) τ M P E := by
  refine .mk ?_; intro W tk σ G H hE hH Q hP hX pins s k0 I
  have hO := h.run W tk σ G H hE hH (fun x H1 => ∃ a C S dx fs, MO X.prog X.w X.K X.mg X.base X.A C m S ∧ x = .ref a ∧ H1 a = some (.ins C dx fs) ∧ fs.lookup m = none ∧ toSp X.K S [x] H1 Q (fun c d H3 => W c d σ H3)) (fun d M1 v G1 H1 ⟨C, S, mo, hi, ha⟩ s1 h1 dv => by
    obtain ⟨a, dx, fs, e1, e2, e3⟩ := hi.get h1 dv
    exact ⟨a, C, S, dx, fs, mo, e1, e2, e3, ap_toSp ha (.cons dv .nil) h1 (hP.step s1) (hX.step s1)⟩) hX
  refine PySem.W.methodCall_KW (pl := pl) (thnT k0 (hO pins s k0 I) fun u s1 k1 ⟨x, H1, I1, rx, a, C, S, dx, fs, mo, ex, ea, l, q⟩ => ?_) ht
  subst ex
  obtain rfl : u = Value.ref a := rx
  obtain ⟨k, g, fd, ps, c, hm, F, hr, hb⟩ := mo.ex
  refine getmeth_ok I1 ea c hm l ?_
  exact PySem.W.callWith_K0 (first := [.ref a]) I1.kIn hm.kp (run_d (us := [.ref a]) (vs := [.ref a]) (dsv := []) (dvs := []) F hr hb .nil tk I1 (.cons rfl .nil) q)
theorem mvD {d : Dat} {S : Spc} (h : ∃ C, MO X.prog X.w X.K X.mg X.base X.A C m S ∧ ∀ M, IsI C m M d) (ha : EA X T es τ M (fun ds M2 => S (d :: ds) M2 (UpP P) (UpP E)) E) :
    ∃ C S, MO X.prog X.w X.K X.mg X.base X.A C m S ∧ IsI C m M d ∧ EA X T es τ M (fun ds M2 => AP S (d :: ds) M2 P E) E :=
  let ⟨C, h1, h2⟩ := h
  ⟨C, S, h1, h2 M, .mk fun W tk σ G H hE hH Q hP hX => ha.run W tk σ G H hE hH Q (fun ds M2 vs G2 H2 hs => hP ds M2 vs G2 H2 (ap_all hs)) hX⟩
theorem mvD0 {d : Dat} {S : Spc} (h : ∃ C, MO X.prog X.w X.K X.mg X.base X.A C m S ∧ ∀ M, IsI C m M d) (ha : S [d] M (UpP P) (UpP E)) : ∃ C S, MO X.prog X.w X.K X.mg X.base X.A C m S ∧ IsI C m M d ∧ AP S [d] M P E :=
  let ⟨C, h1, h2⟩ := h
  ⟨C, S, h1, h2 M, ap_all ha⟩
/-- what becomes of an instance that is made: it is frozen at once -/
theorem made_ok {C x dx : Addr} {fs : List (Str × Dat)} (h : P (.obj C (fs.map (·.1)) (fs.map (·.2))) M) : MadeP P x ((x, .ins C dx fs) :: M) := .inr ⟨C, dx, fs, M, List.Perm.refl _, h⟩
end
end Kh

set_option Elab.async false
set_option linter.all false
set_option maxRecDepth 100000
set_option maxHeartbeats 1000000
namespace Kh
open PySem PySem.Spec L2
/-! ### own operators -/
section
variable {prog : Program} {w : World} {A : Around} {E : Value → Shared → Prop} {s : Shared} {K : PySem.W.Frag} {x C L f : Addr} {h₀ : Heap} {m : Str → Option Value} {ox : Obj} {od : Option Obj} {name : Str} {b tb : Value}
open PySem.W in
theorem ifBound_B {M : Model} {args : List Value} {id : String} {Q : Option Value → Shared → Prop} (X : K.In s.heap) (I : InstAt s.heap x ox C od) (hs : findIn K (.ref C) name = some (some (.builtin id)))
    (hb : ∀ self, bindSpecial (.builtin id) self = pure (.builtin id, [self])) (h : wpAny M A (call (.builtin id) (.ref x :: args)) (fun v => Q (some v)) E s) : wpAny M A (callSpecialIfBound? (.ref x) name args) Q E s := by
  simp only [callSpecialIfBound?, bindSpecialIfBound?]
  refine wpAny_holding (wpAny_bind (wpAny_bind (wpAny_bind (I.type.here ((looks_findIn X hs).here ?_)))))
  refine wpAny_bind (wpAny_askSetting (wpAny_ite ?_))
  have fin : wpAny M A (call (.builtin id) ([.ref x] ++ args) >>= fun v => pure (some v)) Q E s := wpAny_bind (wpAny_mono h (fun v s' h' => wpAny_pure h') fun _ _ h' => h')
  split
  · exact wpAny_bind ((Looks.of_pure (hb _)).here (wpAny_pure (by exact fin)))
  · exact wpAny_tryCatch (wpAny_bind ((Looks.of_pure (hb _)).here (wpAny_pure (by exact fin))))
open PySem.W in
theorem ne_K {Q : Value → Shared → Prop} (hu : A.units < cLine) (hu1 : A.in1.units < cLine) (F : PyProof.Rows.Fr h₀ L s.heap m) (X₀ : K.In h₀) (I : InstAt s.heap x ox C od) (hb : Looks (model prog w) s.heap (typeOf b) tb) (hn : notFirst K C tb = true)
    (hs : findIn K (.ref C) "__ne__" = some (some (.builtin "object.__ne__"))) (he : findIn K (.ref C) "__eq__" = some (some (.ref f))) (hf : isFn K (.ref f) = true) (hm : mroIn K C (.type "object") = some true)
    (h : wpAny (model prog w) A.in1 (call (.ref f) [.ref x, b]) (fun v s' => ∃ k, v = .bool k ∧ Q (.bool (!k)) s') E s) : wpAny (model prog w) A (richCompare .NotEq (.ref x) b) Q E s := by
  have X := X₀.keeps F.keep
  have one : wpAny (model prog w) A (tryCompare (.ref x) "__ne__" b) (fun r s' => ∃ v, r = some v ∧ Q v s') E s := by
    unfold tryCompare
    refine wpAny_bind (ifBound_B (args := [b]) X I hs PySem.F.slot_object_ne.bind ?_)
    refine wpAny_call (codeAny_call_builtin PySem.F.slot_object_ne.plain PySem.F.entry_object_ne (check_slot (i := "object.__ne__") (owner := "object") (n := "__ne__") (by decide +kernel) (by decide +kernel) (I.type.andThen (looks_mroIn X hm)) (PySem.F.args_object_ne_2 _ _) ?_))
    unfold Builtin.«object.__ne__»
    refine wpAny_bind (m := slotArgs "__ne__" 1 _) (wpAny_pure ?_)
    refine wpAny_bind (m := cRoomFor _ _) (wpAny_cRoomFor hu1 ?_)
    refine wpAny_bind (m := callSpecialIfBound? (.ref x) (Str.ofString "__eq__") _) (ifBound_K (args := [b]) X I he hf (wpAny_mono h (fun v s' hv => ?_) fun _ _ e => e))
    obtain ⟨k, rfl, hq⟩ := hv
    refine wpAny_bind (wpAny_truthy_bool ?_)
    refine wpAny_pure ?_
    exact wpAny_pure ⟨_, rfl, hq⟩
  unfold richCompare
  simp only [oneThing_ref]
  refine wpAny_holding (wpAny_bind (wpAny_cRoomFor hu ?_))
  refine wpAny_bind (I.type.here (wpAny_bind (hb.here ?_)))
  split
  · rename_i q
    have e : subIn K tb (.ref C) = some false := by
      rcases Bool.or_eq_true_iff.mp hn with e | e
      · rw [beq_iff_eq.mp e] at q; simp at q
      · exact beq_iff_eq.mp e
    refine wpAny_bind ((looks_subIn X e).here ?_)
    simp only [Bool.false_eq_true, if_false]
    refine wpAny_bind (wpAny_mono one (fun r s' z => ?_) fun _ _ e => e)
    obtain ⟨v, rfl, hq⟩ := z
    exact wpAny_pure hq
  · refine wpAny_bind (wpAny_pure ?_)
    simp only [Bool.false_eq_true, if_false]
    refine wpAny_bind (wpAny_mono one (fun r s' z => ?_) fun _ _ e => e)
    obtain ⟨v, rfl, hq⟩ := z
    exact wpAny_pure hq
end
section
variable {X : Cx} {T : Bool} {τ : TEnv} {M : Mem} {P : PK'} {E : XKx} {a b e o : Expr} {es : List Expr} {pos p apos : Pos} {k : Nat} {fa C : Addr} {fd : FuncData} {ps : List Str} {S : Spc} {W : WX}
/-- a def's call around another place -/
theorem run_dA {A' : Around} {pins : List (Addr × Obj)} {σ : L2.St} {H : Hp} {s : Shared} {Q : VK} {us : List Value} {vs : List V} (F : FnD X.prog X.w X.K X.mg X.base k fa fd ps S) (hr : Room k A') (he : Env0 X.prog X.w X.K X.mg X.base A' X.stack s H) (hb : Binds X.K fd ps []) (tk : Takes X W)
    (I : Inv X pins σ H s) (r : Vals vs us) (h : toSp X.K S vs H Q (fun c d H2 => W c d σ H2)) : wpAny (model X.prog X.w) A' (call (.ref fa) us) (EP X pins σ Q) X.xe s := by
  have hl : (us ++ []).length = ps.length := by rw [List.append_nil, ← r.length]; exact F.len _ _ _ _ h
  have hbb := hb s us I.kIn hl
  rw [List.append_nil] at hbb
  refine wpAny_call (codeAny_mono (F.run A' X.stack s H ⟨us, []⟩ us vs Q _ hr he hbb r h) fun r s' hq => ?_)
  cases r with
  | error e => exact tk e s' (XE.of_call I (fun cls d H' h => h) hq)
  | ok fl =>
    cases fl with
    | ret u => exact I.after hq
    | next => exact False.elim hq
    | brk => exact False.elim hq
    | cont => exact False.elim hq
/-- x != y, x an instance of the class at C with an own __eq__ at fa, without an own __ne__ -/
theorem o_neOwn {x y : Dat} {t : Value} (F : FnD X.prog X.w X.K X.mg X.base k fa fd ps S) (hr : Room (k + 1) X.A) (hs : PySem.W.findIn X.K (.ref C) "__eq__" = some (some (.ref fa))) (hf : PySem.W.isFn X.K (.ref fa) = true)
    (hne : PySem.W.findIn X.K (.ref C) "__ne__" = some (some (.builtin "object.__ne__"))) (hm : PySem.W.mroIn X.K C (.type "object") = some true) (hb : Binds X.K fd ps [])
    (hx : IsI C "__eq__" M x) (ty : TyD X.K M y t) (hn : PySem.W.notFirst X.K C t = true) (h : S [x, y] M (UpP fun d M2 => ∃ b, d = .bl b ∧ P (.bl (!b)) M2) (UpP E0')) : OP X T (compareOp .NotEq) x y M P := by
  intro G H v u hH dx dy Q hP pins s σ v' u' _ I rx ry
  obtain ⟨a, dxa, fs, rfl, ea, _⟩ := hx.get hH dx
  obtain rfl : v' = Value.ref a := rx
  obtain ⟨mA, J, _⟩ := ins_get I.hok ea
  obtain ⟨od, J, _⟩ := J.look
  obtain ⟨m, hF⟩ := I.fr
  obtain ⟨Pr, Z, pz, _⟩ := kit_of I ry (tyD_ok ty hH dy)
  have hsp : toSp X.K S [.ref a, u] H (fun z H' => ∃ b, z = .bl b ∧ Q (.bl (!b)) H') (fun _ _ _ => False) :=
    ap_toSp (ap_all h) (.cons dx (.cons dy .nil)) hH (fun d M2 z G2 H2 ⟨b, ed, hp⟩ s2 h2 dz => by subst ed; exact ⟨b, dz.bl_inv, hP _ _ _ _ _ hp s2 h2 den_bl⟩) noX
  refine ne_K (tb := t) hr.units0 hr.in1.units0 hF I.ok.mod.kin J (Z.ty _ _ I.kIn pz) hn hne hs hf hm ?_
  refine wpAny_mono (run_dA (W := fun _ _ _ _ => False) (us := [.ref a, u']) (vs := [.ref a, u]) F hr.in1 I.env0.in1 hb takes0 I (.cons rfl (.cons ry .nil)) hsp) (fun r s' q => ?_) fun _ _ z => z
  obtain ⟨z, H', I', rz, b, ez, q⟩ := q
  subst ez
  cases rz
  exact ⟨b, rfl, .bl (!b), H', I', rfl, q⟩
/-- x op y, both of the class at C -/
theorem cmpBack_ref {Q : Value → Shared → Prop} {r : Value} {s' : Shared} {a : Addr} (e : r = .ref a) (h : Q r s') : PySem.W.CmpBack Q r s' := by subst e; exact h
theorem o_binOwn {op : Operator} {x y : Dat} (F : FnD X.prog X.w X.K X.mg X.base k fa fd ps S) (hr : Room k X.A) (hs : PySem.W.findIn X.K (.ref C) (PySem.dunder op.info.2) = some (some (.ref fa))) (hf : PySem.W.isFn X.K (.ref fa) = true) (hb : Binds X.K fd ps []) (hc : PySem.W.selfFirst X.K C = true)
    (hx : ∀ M, IsI C "__eq__" M x) (hy : ∀ M, IsI C "__eq__" M y) (h : S [x, y] M (UpP fun d M2 => isR d = true ∧ P d M2) (UpP E0')) : OP X T (binaryOp op) x y M P := by
  intro G H v u hH dx dy Q hP pins s σ v' u' _ I rx ry
  obtain ⟨a, dxa, fs, rfl, ea, _⟩ := (hx M).get hH dx
  obtain ⟨b, dxb, fsb, rfl, eb, _⟩ := (hy M).get hH dy
  obtain rfl : v' = Value.ref a := rx
  obtain rfl : u' = Value.ref b := ry
  obtain ⟨mA, J, _⟩ := ins_get I.hok ea
  obtain ⟨od, J, _⟩ := J.look
  obtain ⟨mB, J2, _⟩ := ins_get I.hok eb
  obtain ⟨od2, J2, _⟩ := J2.look
  obtain ⟨m, hF⟩ := I.fr
  have hsp : toSp X.K S [.ref a, .ref b] H (fun z H' => (∃ c, z = .ref c) ∧ Q z H') (fun _ _ _ => False) :=
    ap_toSp (ap_all h) (.cons dx (.cons dy .nil)) hH (fun d M2 z G2 H2 ⟨hd, hp⟩ s2 h2 dz => ⟨den_isR hd dz, hP _ _ _ _ _ hp s2 h2 dz⟩) noX
  refine PySem.W.binop_K hF I.ok.mod.kin J J2.type hc hs hf ?_
  refine wpAny_mono (run_d (dsv := []) (dvs := []) (W := fun _ _ _ _ => False) (us := [.ref a, .ref b]) (vs := [.ref a, .ref b]) F hr hb .nil takes0 I (.cons rfl (.cons rfl .nil)) (by rw [List.append_nil]; exact hsp)) (fun r s' q => ?_) fun _ _ z => z
  obtain ⟨z, H', I', rz, ⟨c, rfl⟩, q⟩ := q
  obtain rfl : r = Value.ref c := rz
  exact ⟨.ref c, H', I', rfl, q⟩
/-- x op n, n a whole number -/
theorem o_binOwnI {op : Operator} {x : Dat} {n : Int} {fo ro : Option Value} (F : FnD X.prog X.w X.K X.mg X.base k fa fd ps S) (hr : Room k X.A) (hs : PySem.W.findIn X.K (.ref C) (PySem.dunder op.info.2) = some (some (.ref fa))) (hf : PySem.W.isFn X.K (.ref fa) = true) (hb : Binds X.K fd ps []) (hc : PySem.W.selfFirst X.K C = true)
    (hrr : PySem.W.findIn X.K (.ref C) (dunderR op.info.2) = some none) (h1 : PySem.W.findIn X.K (.type "int") (PySem.dunder op.info.2) = some fo) (h2 : PySem.W.findIn X.K (.type "int") (dunderR op.info.2) = some ro) (hsub : PySem.W.subIn X.K (.type "int") (.ref C) = some false)
    (hx : ∀ M, IsI C "__eq__" M x) (h : S [x, .int n] M (UpP fun d M2 => isR d = true ∧ P d M2) (UpP E0')) : OP X T (binaryOp op) x (.int n) M P := by
  intro G H v u hH dx dy Q hP pins s σ v' u' _ I rx ry
  obtain ⟨a, dxa, fs, rfl, ea, _⟩ := (hx M).get hH dx
  obtain rfl : v' = Value.ref a := rx
  obtain ⟨mA, J, _⟩ := ins_get I.hok ea
  obtain ⟨od, J, _⟩ := J.look
  obtain ⟨m, hF⟩ := I.fr
  have eu := dy.int_inv
  subst eu
  obtain ⟨t, rfl⟩ := ry
  have hsp : toSp X.K S [.ref a, .int n] H (fun z H' => (∃ c, z = .ref c) ∧ Q z H') (fun _ _ _ => False) :=
    ap_toSp (ap_all h) (.cons dx (.cons den_int .nil)) hH (fun d M2 z G2 H2 ⟨hd, hp⟩ s2 h2 dz => ⟨den_isR hd dz, hP _ _ _ _ _ hp s2 h2 dz⟩) noX
  refine PySem.W.ksp_binT (T := "int") hF I.ok.mod.kin J rfl hc hs hf hrr (.inl rfl) h1 h2 hsub ?_
  refine wpAny_mono (run_d (dsv := []) (dvs := []) (W := fun _ _ _ _ => False) (us := [.ref a, .int n t]) (vs := [.ref a, .int n]) F hr hb .nil takes0 I (.cons rfl (.cons ⟨t, rfl⟩ .nil)) (by rw [List.append_nil]; exact hsp)) (fun r s' q => ?_) fun _ _ z => z
  obtain ⟨z, H', I', rz, ⟨c, rfl⟩, q⟩ := q
  obtain rfl : r = Value.ref c := rz
  exact ⟨.ref c, H', I', rfl, q⟩
theorem nf_self {K : PySem.W.Frag} {C : Addr} : PySem.W.notFirst K C (.ref C) = true := by
  unfold PySem.W.notFirst; simp
/-- x == y, x != y of one class, by what its __eq__ computes -/
theorem r_eqOwn {x y : Dat} {m : Res Bool} {Q : Bool → Prop} {E1 : Er → Prop} {t : Value} (F : FnD X.prog X.w X.K X.mg X.base k fa fd ps S) (hr : Room k X.A) (mt : Meth X.K C "__eq__" fa) (hb : Binds X.K fd ps []) (hx : ∀ M, IsI C "__eq__" M x) (ty : ∀ M, TyD X.K M y t) (hn : PySem.W.notFirst X.K C t = true)
    (hS : ∀ (P' : PK') (E' : XKx), m.Out (fun r => P' (.bl r) M) (fun _ => False) → S [x, y] M P' E') (h : m.ne.Out Q E1) (hk : ∀ b, Q b → P (.bl b) M) : OP X T (compareOp .Eq) x y M P :=
  o_eqOwn F hr mt.1 mt.2 hb (hx M) (ty M) hn (hS _ _ (out_mono (ne_out (E' := fun _ => False) h) (fun r q => UpP.mk ⟨r, rfl, hk r q⟩) fun _ z => z))
theorem r_neOwn {x y : Dat} {m : Res Bool} {Q : Bool → Prop} {E1 : Er → Prop} {t : Value} (F : FnD X.prog X.w X.K X.mg X.base k fa fd ps S) (hr : Room (k + 1) X.A) (mt : Meth X.K C "__eq__" fa) (hne : PySem.W.findIn X.K (.ref C) "__ne__" = some (some (.builtin "object.__ne__"))) (hl : ICls X.K C) (hb : Binds X.K fd ps []) (hx : ∀ M, IsI C "__eq__" M x) (ty : ∀ M, TyD X.K M y t) (hn : PySem.W.notFirst X.K C t = true)
    (hS : ∀ (P' : PK') (E' : XKx), m.Out (fun r => P' (.bl r) M) (fun _ => False) → S [x, y] M P' E') (h : m.ne.Out Q E1) (hk : ∀ b, Q b → P (.bl (!b)) M) : OP X T (compareOp .NotEq) x y M P :=
  o_neOwn F hr mt.1 mt.2 hne hl.mr hb (hx M) (ty M) hn (hS _ _ (out_mono (ne_out (E' := fun _ => False) h) (fun r q => UpP.mk ⟨r, rfl, hk r q⟩) fun _ z => z))
/-- len(x), x with an own __len__ -/
theorem bc_w {f : Value} {ds : List Dat} (h : ∀ G H vs, Hst X.K G M H → DenL X.K G ds vs → ∀ Q, CE' X.K G M H P Q → ∀ pins s σ us, Inv X pins σ H s → Vals vs us → wpAny (model X.prog X.w) X.A (call f us) (EP X pins σ Q) X.xe s) : BC X f ds M P :=
  ⟨fun vs H Q => ∀ pins s σ us, Inv X pins σ H s → Vals vs us → wpAny (model X.prog X.w) X.A (call f us) (EP X pins σ Q) X.xe s, fun pins s σ H vs us Q I r h => h pins s σ us I r, fun G H vs hH dv Q hP pins s σ us I r => h G H vs hH dv Q hP pins s σ us I r⟩
theorem c_lenOwn {x : Dat} (F : FnD X.prog X.w X.K X.mg X.base k fa fd ps S) (hr : Room (k + 1) X.A) (hs : PySem.W.findIn X.K (.ref C) "__len__" = some (some (.ref fa))) (hf : PySem.W.isFn X.K (.ref fa) = true) (hb : Binds X.K fd ps [])
    (hx : ∀ M, IsI C "__eq__" M x) (h : S [x] M (UpP fun d M2 => ∃ i, d = .int i ∧ (0 ≤ i ∧ i < 2 ^ 63) ∧ P d M2) (UpP E0')) : BC X (.builtin "len") [x] M P := bc_w fun G H vs hH dv Q hP pins s σ us I r => by
  obtain ⟨v, rfl, dx⟩ := one_inv dv
  obtain ⟨a, dxa, fs, rfl, ea, _⟩ := (hx M).get hH dx
  cases r with
  | cons r1 rr =>
    cases rr
    obtain rfl := r1
    obtain ⟨mA, J, _⟩ := ins_get I.hok ea
    obtain ⟨od, J, _⟩ := J.look
    obtain ⟨m, hF⟩ := I.fr
    have hsp : toSp X.K S [.ref a] H (fun z H' => ∃ i, z = .int i ∧ (0 ≤ i ∧ i < 2 ^ 63) ∧ Q (.int i) H') (fun _ _ _ => False) :=
      ap_toSp (ap_all h) (.cons dx .nil) hH (fun d M2 z G2 H2 ⟨i, ed, hi, hp⟩ s2 h2 dz => by subst ed; exact ⟨i, dz.int_inv, hi, hP _ _ _ _ _ hp s2 h2 den_int⟩) noX
    refine PySem.W.len_K hF I.ok.mod.kin J hs hf ?_
    refine wpAny_mono (run_dA (W := fun _ _ _ _ => False) (us := [.ref a]) (vs := [.ref a]) F hr.in1 I.env0.in1 hb takes0 I (.cons rfl .nil) hsp) (fun r s' q => ?_) fun _ _ z => z
    obtain ⟨z, H', I', rz, i, ez, hi, q⟩ := q
    subst ez
    obtain ⟨t, rfl⟩ := rz
    exact ⟨hi, .int i, H', I'.tok _, ⟨_, rfl⟩, q⟩
def plenO (m : Res Int) : Res Int := m.ne.bind fun i => guard (0 ≤ i ∧ i < 2 ^ 63) i
theorem lenO {Q : Int → Prop} {E1 : Er → Prop} {ex : Er → Exn} : ∀ {m : Res Int} (h : (plenO m).Out Q E1) (hk : ∀ i, Q i → P (.int i) M),
    m.Out (fun r => UpP (fun (d : Dat) (M2 : Mem) => ∃ i, d = Dat.int i ∧ (0 ≤ i ∧ i < 2 ^ 63) ∧ P d M2) (Dat.int r) M) (fun x => UpP E0' (ex x) M)
  | .ok i, h, hk => by
    have h2 := gd h
    exact UpP.mk (P := fun (d : Dat) (M2 : Mem) => ∃ i, d = Dat.int i ∧ (0 ≤ i ∧ i < 2 ^ 63) ∧ P d M2) ⟨i, rfl, h2.1, hk _ h2.2⟩
  | .err _, h, _ => h.elim
  | .bad, h, _ => h.elim
  | .all f, h, hk => fun q => lenO (m := f q) (h q) hk
/-- x[y], x with an own __getitem__ -/
def OwnIx (X : Cx) (M : Mem) (P : PK') (E : XKx) (x y : Dat) : Prop := ∃ C fa k fd ps S, FnD X.prog X.w X.K X.mg X.base k fa fd ps S ∧ Room (k + 1) X.A ∧ PySem.W.findIn X.K (.ref C) "__getitem__" = some (some (.ref fa)) ∧ PySem.W.fnIn X.K fa = true ∧ PySem.W.isFn X.K (.ref fa) = true ∧ Binds X.K fd ps [] ∧ IsI C "__eq__" M x ∧ S [x, y] M (UpP P) (UpP E)
theorem ex_ixOwn (h : EX X T a τ M (fun x M1 => EX X T b τ M1 (fun y M2 => OwnIx X M2 P E x y) E) E) (hs : ∀ x i, subscripted b true x i = runValue (.builtin "lifetime.subscript" ⟨[x, i], []⟩) := by intro _ _; with_unfolding_all rfl) : EX X T (.Subscript a b pos) τ M P E := by
  refine .mk ?_; intro W tk σ G H hE hH Q hP hX pins s k0 I
  have hA := h.run W tk σ G H hE hH (fun x H1 => tW X T b σ H1 fun y H2 => ∃ C fa k fd ps S a dx fs, FnD X.prog X.w X.K X.mg X.base k fa fd ps S ∧ Room (k + 1) X.A ∧ PySem.W.findIn X.K (.ref C) "__getitem__" = some (some (.ref fa)) ∧ PySem.W.fnIn X.K fa = true ∧ PySem.W.isFn X.K (.ref fa) = true ∧ Binds X.K fd ps [] ∧
      x = .ref a ∧ H2 a = some (.ins C dx fs) ∧ toSp X.K S [x, y] H2 Q (fun c d H3 => W c d σ H3))
    (fun x M1 v G1 H1 hb s1 h1 dx => hb.run W tk σ G1 H1 (hE.up s1.gg) h1 _ (fun y M2 u G2 H2 ⟨C, fa, k, fd, ps, S, F, hr, f1, f2, f3, bb, hi, hS⟩ s2 h2 dy => by
      obtain ⟨a, dxa, fs, e1, e2, _⟩ := hi.get h2 (dx.up s2.gg)
      exact ⟨C, fa, k, fd, ps, S, a, dxa, fs, F, hr, f1, f2, f3, bb, e1, e2, ap_toSp (ap_all hS) (.cons (dx.up s2.gg) (.cons dy .nil)) h2 (hP.step (s1.trans s2)) (hX.step (s1.trans s2))⟩) (hX.step s1)) hX
  refine PyProof.Rows.Subscript_ (thnT k0 (hA pins s k0 I) fun v s1 k1 ⟨x, H1, I1, r1, q1⟩ => thn (q1 pins s1 k1 I1) fun u s2 ⟨y, H2, I2, r2, C, fa, k, fd, ps, S, a, dx, fs, F, hr, f1, f2, f3, bb, ex, ea, q2⟩ => ?_)
  subst ex
  obtain rfl : v = Value.ref a := r1
  obtain ⟨mA, J, _⟩ := ins_get I2.hok ea
  obtain ⟨od, J, _⟩ := J.look
  obtain ⟨m, hF⟩ := I2.fr
  exact PySem.W.sub_K hF I2.ok.mod.kin J f1 f2 f3 (run_dA (us := [.ref a, u]) (vs := [.ref a, y]) F hr.in1 I2.env0.in1 bb tk I2 (.cons rfl (.cons r2 .nil)) q2) (hs _ _)
/-- a property of a class that is told -/
theorem ex_propD {n : Str} (h : EX X T e τ M (fun d M1 => ∃ C q g k fd ps S, Cls X.K C ∧ PropOf X.K C n q g ∧ FnD X.prog X.w X.K X.mg X.base k g fd ps S ∧ Room (k + 1) X.A ∧ Binds X.K fd ps [] ∧ (∃ m, IsI C m M1 d) ∧ AP S [d] M1 P E0') E) (hab : attributeBase e n X.env (eval e X.env) = eval e X.env := by rfl) : EX X T (.Attribute e n pos) τ M P E := by
  refine .mk ?_; intro W tk σ G H hE hH Q hP hX
  intro pins s k0 I
  have hO := h.run W tk σ G H hE hH (fun x H1 => ∃ C q g k fd ps S a dx fs, Cls X.K C ∧ PropOf X.K C n q g ∧ FnD X.prog X.w X.K X.mg X.base k g fd ps S ∧ Room (k + 1) X.A ∧ Binds X.K fd ps [] ∧ x = .ref a ∧ H1 a = some (.ins C dx fs) ∧ toSp X.K S [x] H1 Q L2.E0) (fun d M1 v G1 H1 ⟨C, q, g, k, fd, ps, S, c, hp, F, hr, hb, ⟨m, hi⟩, ha⟩ s1 h1 dv => by
    obtain ⟨a, dx, fs, e1, e2, e3⟩ := hi.get h1 dv
    exact ⟨C, q, g, k, fd, ps, S, a, dx, fs, c, hp, F, hr, hb, e1, e2, ap_toSp ha (.cons dv .nil) h1 (hP.step s1) noX⟩) hX
  refine attr_of hab (thn (hO pins s k0 I) fun u s1 ⟨x, H1, I1, rx, C, q, g, k, fd, ps, S, a, dx, fs, c, hp, F, hr, hb, ex, ea, qq⟩ => ?_)
  subst ex
  obtain rfl : u = Value.ref a := rx
  exact getprop_ok (dvs := []) I1 ea c hp F hr hb .nil passL qq
end
/-! ### a comprehension that changes cells -/
section
variable {X : Cx} {T : Bool} {τ : TEnv} {M : Mem} {P : PK'} {E : XKx} {t e iter tg : Expr} {pos : Pos} {α β σ ρ : Type} {E1 : Er → Prop}
theorem compST {xs : List α} (f : α → Dat) (f2 : β → Dat) {g : σ → α → Res (Option β × σ)} {s0 : σ} (Mf : σ → Mem) {Ok : Mem → Prop} {vs : List Nat} {scope : Scope} {ifs : List Expr} {elt : Expr} {Q : List β × σ → Prop} (h : (compS g xs s0).Out Q E1) (hOk : ∀ s, Ok (Mf s))
    (step : ∀ x s0 (N : Option β × σ → Prop), (g s0 x).Out N (fun _ => False) → ∀ (s : Shared) (H : Hp) (C : Addr) (cl : List (Str × Addr)) (fp : List Addr), GC (Cx.Bk X scope s H C cl fp) vs tg (f x) (wipeT τ vs) (Mf s0) (fun τ2 M2 => ∀ (s : Shared) (H : Hp) (C : Addr) (cl : List (Str × Addr)) (fp : List Addr),
        EFs (Cx.Bk X scope s H C cl fp) ifs τ2 M2 (fun b M3 => (b = true → ∀ (s : Shared) (H : Hp) (C : Addr) (cl : List (Str × Addr)) (fp : List Addr), EX (Cx.Bk X scope s H C cl fp) false elt τ2 M3 (fun y M4 => ∃ v s2, M4 = Mf s2 ∧ y = f2 v ∧ N (some v, s2)) E0') ∧ (b = false → ∃ s2, M3 = Mf s2 ∧ N (none, s2)))))
    (fin : ∀ r, Q r → P (lstD f2 r.1) (Mf r.2)) :
    LcQ X scope vs tg ifs elt τ (xs.map f) (Mf s0) Ok P := by
  unfold compS at h
  split at h
  case isFalse => exact h.elim
  rename_i hl
  have h : (compSL g xs s0).Out Q (fun _ => False) := ne_out h
  refine ⟨by rw [List.length_map]; exact hl, fun i acc M => ∃ s, M = Mf s ∧ ∃ ys : List β, acc = ys.map f2 ∧ (compSL g (xs.drop i) s).Out (fun r => Q (ys ++ r.1, r.2)) (fun _ => False), ⟨s0, rfl, [], rfl, h⟩, fun i acc M ⟨s, e, _⟩ => by rw [e]; exact hOk s, ?_, ?_⟩
  · rintro i d acc M hd ⟨s0, rfl, ys, rfl, h2⟩ s H C cl fp
    rw [List.getElem?_map] at hd
    obtain ⟨x, hx, rfl⟩ := Option.map_eq_some_iff.mp hd
    obtain ⟨hi, rfl⟩ := List.getElem?_eq_some_iff.mp hx
    rw [List.drop_eq_getElem_cons hi] at h2
    refine GC.impP (fun τ2 M2 hw => ?_) (step _ s0 _ (ob h2) s H C cl fp)
    intro s H C cl fp σ G H' hE hH Q' hQ
    refine hw s H C cl fp σ G H' hE hH Q' fun b M3 G3 H3 ⟨p1, p2⟩ s3 h3 => hQ b M3 G3 H3 ⟨fun eb s H C cl fp => ?_, fun eb => ?_⟩ s3 h3
    · refine (p1 eb s H C cl fp).imp (fun y M4 ⟨v, s2, e4, ev, hv⟩ => ?_) fun _ _ x => x
      subst ev
      refine ⟨s2, e4, ys ++ [v], by simp, ?_⟩
      have hv := ob hv
      refine out_mono hv (fun r q => ?_) fun _ z => z
      have : Q (ys ++ ((some v).toList ++ r.1), r.2) := q
      simpa using this
    · obtain ⟨s2, e3, hv⟩ := p2 eb
      refine ⟨s2, e3, ys, rfl, ?_⟩
      exact out_mono (ob hv) (fun r q => by have : Q (ys ++ ((none : Option β).toList ++ r.1), r.2) := q; simpa using this) fun _ z => z
  · rintro acc M ⟨s, rfl, ys, rfl, h2⟩
    rw [List.length_map, List.drop_length] at h2
    have : Q (ys ++ [], s) := h2
    rw [List.append_nil] at this
    exact fin (ys, s) this
end
end Kh

set_option Elab.async false
set_option linter.all false
set_option maxRecDepth 100000
set_option maxHeartbeats 4000000
namespace Kh
open PySem PySem.Spec L2
/-! ### text[::-1] -/
def prevS (z : Str) : Res Str := guard (z.length ≤ sizeLine) ⟨(signsL z).reverse.toArray⟩
theorem fm_map {α β : Type} {f : α → Option β} {g : α → β} : ∀ {l : List α}, (∀ x ∈ l, f x = some (g x)) → l.filterMap f = l.map g
  | [], _ => rfl
  | x :: l, h => by rw [List.filterMap_cons, h x List.mem_cons_self, List.map_cons, fm_map fun y hy => h y (List.mem_cons_of_mem _ hy)]
theorem rev_idx (z : Str) : (Builtin.Str.strSliceIndices none none (-1) z.length).filterMap (z.cps[·]?) = (signsL z).reverse := by
  have hz : z.cps.size = z.length := rfl
  have e : Builtin.Str.strSliceIndices none none (-1) z.length = (List.range z.length).map fun (k : Nat) => z.length - 1 - k := by
    unfold Builtin.Str.strSliceIndices sliceRange
    simp only [show ¬ ((-1 : Int) > 0) by decide, if_false]
    have c : (if ((z.length : Int) - 1 > -1) then (((z.length : Int) - 1) - (-1) - (-1) - 1) / (-(-1)) else 0).toNat = z.length := by
      split
      · have : (((z.length : Int) - 1) - (-1) - (-1) - 1) / (-(-1)) = z.length := by
          rw [show (-(-1) : Int) = 1 from rfl, Int.ediv_one]; omega
        rw [this]; simp
      · omega
    rw [c]
    refine List.map_congr_left fun k hk => ?_
    have := List.mem_range.mp hk
    omega
  rw [e, List.filterMap_map]
  refine List.ext_getElem? fun i => ?_
  have e2 : (List.range z.length).filterMap ((z.cps[·]?) ∘ fun (k : Nat) => z.length - 1 - k) = (List.range z.length).map fun k => z.cps.toList.getD (z.length - 1 - k) 0 := by
    refine fm_map fun k hk => ?_
    have := List.mem_range.mp hk
    show z.cps[z.length - 1 - k]? = some _
    have hlt : z.length - 1 - k < z.cps.size := by rw [hz]; omega
    rw [Array.getElem?_eq_getElem hlt]
    simp [List.getD, hlt]
  rw [e2]
  by_cases hi : i < z.length
  · have hl : (signsL z).length = z.length := by simp [hz]
    rw [List.getElem?_map, List.getElem?_range hi, List.getElem?_reverse (by rw [hl]; exact hi), hl]
    simp only [Option.map_some]
    have hlt : z.length - 1 - i < (signsL z).length := by rw [hl]; omega
    rw [List.getElem?_eq_getElem hlt]
    simp [List.getD, signsL]
    have : z.length - 1 - i < z.cps.size := by rw [hz]; omega
    simp [this]
  · have hl : (signsL z).length = z.length := by simp [hz]
    rw [List.getElem?_eq_none (by simp; omega), List.getElem?_eq_none (by rw [List.length_reverse, hl]; omega)]
section
variable {X : Cx} {T : Bool} {τ : TEnv} {M : Mem} {P : PK'} {E : XKx} {e : Expr} {pos p1 p2 p3 : Pos} {kk : Nat}
open PyProof.Rows in
theorem ex_revS (h : EX X T e τ M (fun d M1 => ∃ z Q E1, d = .str z ∧ (prevS z).Out Q E1 ∧ ∀ r, Q r → P (.str r) M1) E) : EX X T (.Subscript e (.Slice none none (some (.UnaryOp .USub (.Constant (.int 1) kk p1) p2)) p3) pos) τ M P E := .mk fun W tk σ G H hE hH Q hP hX pins s kt I => by
  have hO := h.run W tk σ G H hE hH (fun v H1 => ∃ z, v = .str z ∧ z.length ≤ sizeLine ∧ Q (.str ⟨(signsL z).reverse.toArray⟩) H1) (fun d M1 v G1 H1 ⟨z, Q', E1, ed, hg, hk⟩ s1 h1 dv => by
    subst ed
    exact ⟨z, dv.str_inv, (gd hg).1, hP _ _ _ _ _ (hk _ (gd hg).2) s1 h1 den_str⟩) hX
  refine Subscript_ (thnT kt (hO pins s kt I) fun v s1 k1 ⟨x, H1, I1, r1, z, ex, hz, q⟩ => ?_)
  subst ex
  obtain ⟨t, rfl⟩ := r1
  have hst : PO X (some (.UnaryOp .USub (.Constant (.int 1) kk p1) p2)) (tPart (tUn (rU fun i => .int (-i)) (tC (.int 1)))) := po_some (pe_un un_neg pe_int)
  refine wpAny_Slice (thn (po_none.run pins s1 σ H1 (fun o H2 => o = none ∧ H2 = H1) I1 ⟨rfl, rfl⟩) fun vl s2 ⟨l, H2, I2, pl, el, e2⟩ => ?_)
  subst el e2
  refine thn (po_none.run pins s2 σ H2 (fun o H3 => o = none ∧ H3 = H2) I2 ⟨rfl, rfl⟩) fun vu s3 ⟨u, H3, I3, pu, eu, e3⟩ => ?_
  subst eu e3
  refine thn (hst.run pins s3 σ H3 (fun o H4 => o = some (-1) ∧ H4 = H3) I3 ⟨1, rfl, -1, rfl, rfl, rfl⟩) fun vs s4 ⟨o, H4, I4, ps, eo, e4⟩ => ?_
  subst eo e4
  have I5 : Inv X pins σ H4 { s4 with heap := s4.heap.push { cls := .type "slice", data := .fields #[vl, vu, vs] } } := I4.kept (t' := s4.toks) fun b ob q => Heap.get?_push_of_some _ q
  obtain ⟨l', rfl, el⟩ := IsPart.raw pl
  obtain ⟨u', rfl, eu⟩ := IsPart.raw pu
  obtain ⟨st', rfl, es⟩ := IsPart.raw ps
  show wpAny (model X.prog X.w) X.A (subscriptTail e (.Slice none none (some (.UnaryOp .USub (.Constant (.int 1) kk p1) p2)) p3) (.str z t) (.ref s4.heap.objs.size)) (EP X pins σ Q) X.xe { s4 with heap := s4.heap.push { cls := .type "slice", data := .fields #[partValue l', partValue u', partValue st'] } }
  refine tail_any (ops := [.str z t, .ref s4.heap.objs.size]) (typeIs_str _ _ _) F.slot_str_getitem.lookup ?_ (by with_unfolding_all rfl)
  have g1 : (st'.map (·.1)).getD 1 = -1 := by rw [es]; rfl
  refine wpAny_getItem_str_slice (l := l') (u := u') (st := st') ⟨_, Heap.get?_push_size _ rfl, rfl, rfl⟩ (by rw [g1]; decide) ?_
  unfold sliceMade slicePicked
  rw [g1, el, eu, if_neg (by simp), rev_idx]
  exact ⟨by show (signsL z).reverse.toArray.size ≤ _; simp; exact hz, .str _, H4, I5.tok _, ⟨_, rfl⟩, q⟩
end
/-! ### a property by an instance's class -/
def PrD (P : Program) (w : World) (K : PySem.W.Frag) (mg : Str → Option Value) (base : Heap) (A : Around) {α : Type} (n : Str) (d : Dat) (m : Res α) (e : α → Dat) : Prop :=
  ∀ M (P' : PK') E1, m.ne.Out (fun r => P' (e r) M) E1 → ∃ C q g k fd ps S, Cls K C ∧ PropOf K C n q g ∧ FnD P w K mg base k g fd ps S ∧ Room (k + 1) A ∧ Binds K fd ps [] ∧ (∃ mm, ∀ M, IsI C mm M d) ∧ S [d] M (UpP P') (UpP E0')
theorem prD {X : Cx} {α : Type} {M : Mem} {P : PK'} {n : Str} {d : Dat} {m : Res α} {e : α → Dat} {Q : α → Prop} {E1 : Er → Prop} (hp : PrD X.prog X.w X.K X.mg X.base X.A n d m e) (h : m.ne.Out Q E1) (hk : ∀ r, Q r → P (e r) M) :
    ∃ C q g k fd ps S, Cls X.K C ∧ PropOf X.K C n q g ∧ FnD X.prog X.w X.K X.mg X.base k g fd ps S ∧ Room (k + 1) X.A ∧ Binds X.K fd ps [] ∧ (∃ m, IsI C m M d) ∧ AP S [d] M P E0' := by
  obtain ⟨C, q, g, k, fd, ps, S, h1, h2, h3, h4, h5, ⟨mm, h6⟩, h7⟩ := hp M P E1 (out_mono h hk fun _ z => z)
  exact ⟨C, q, g, k, fd, ps, S, h1, h2, h3, h4, h5, ⟨mm, h6 M⟩, ap_all h7⟩
end Kh

set_option Elab.async false
set_option linter.all false
set_option maxRecDepth 100000
set_option maxHeartbeats 1000000
namespace Kh
open PySem PySem.Spec L2
/-! ### for x in an instance whose __iter__ gives iter(a text of its own) -/
def itSObj (z : Str) (t : Tok) : Obj := { cls := .type (strIterType z), data := .fields #[.str z t, .int 0 0] }
def SItO (z : Str) (it : Addr) : HO := .ext fun h => ∃ t, h.get? it = some (itSObj z t)
theorem sitO_ok {P : Program} {w : World} {H : Hp} {h : Heap} {z : Str} {it : Addr} {t : Tok} (e : h.get? it = some (itSObj z t)) : ObjOk P w H h it (SItO z it) := ⟨⟨t, e⟩, ⟨_, e⟩, fun h1 h2 ⟨t, q⟩ k => ⟨t, k _ q⟩⟩
theorem call_iterS {prog : Program} {w : World} {A : Around} {E : Value → Shared → Prop} {s : Shared} {z : Str} {t : Tok} {Q : Value → Shared → Prop} (h : Q (.ref s.heap.objs.size) { s with heap := s.heap.push (itSObj z t) }) : wpAny (model prog w) A (call (.builtin "iter") [.str z t]) Q E s := by
  refine Calls.call_function_entry (by decide +kernel) (by decide +kernel) PySem.W.kdk_entry_iter (PySem.W.kdk_args_iter _) ?_
  unfold Builtin.«iter»
  refine wpAny_bind (m := someArgs "iter" 1 2 _) (wpAny_of_eq (a := [Value.str z t]) (by first | rfl | kernel_rfl!) ?_)
  show wpAny _ _ (pyIter (.str z t) >>= _) _ _ _
  refine wpAny_bind (wpAny_pyIter_strU ?_)
  exact wpAny_pure ⟨_, rfl, h⟩
def rIterS (n : Nat) : List V → Hp → VK → Prop := fun xs H Q => ∃ z, xs = [.str z] ∧ ∀ it, H it = Option.none → n ≤ it → Q (.ref it) (upd H it (SItO z it))
theorem cr_iterS {X : Cx} : CallR X (.builtin "iter") (rIterS X.s_0.heap.objs.size) := by
  intro pins s σ H xs us Q I r h
  obtain ⟨z, rfl, q⟩ := h
  cases r with
  | cons r1 rr =>
    cases rr
    obtain ⟨t, rfl⟩ := r1
    refine call_iterS ?_
    exact ⟨.ref s.heap.objs.size, _, I.laid (t' := s.toks) (fun b u e => Heap.get?_push_of_some _ e) (Nat.le_refl _) (sitO_ok (t := t) (Heap.get?_push_size _ rfl)), rfl, q _ (I.hok.fresh (Nat.le_refl _)) I.sz⟩
theorem run_w {CX : CXT} {P : Program} {w : World} {K : PySem.W.Frag} {mg : Str → Option Value} {base : Heap} {k : Nat} {f : Addr} {name qual : Str} {params : Arguments} {body : List Stmt} {scope : Scope} {dV kV doc pm cdv ct oc : Value} {an od : Option Addr}
    {osl : Array (Option Value)} {N ps : List Str} (lk : K.lookup f = some ⟨oc, od, .func (PySem.W.fnOf name qual params body scope dV kV doc pm an cdv ct), osl⟩) (hcd : PySem.W.codeIn K cdv qual = true) (S : FnScope N ps scope)
    {A : Around} {outer : List Env} {s : Shared} {H : Hp} {args : Args} {us : List Value} {vs : List V} {Q : VK} {E : XK} (hr : Room (k + 1) A) (e0 : Env0 P w K mg base A outer s H) (hb : BindsTo s (PySem.W.fnOf name qual params body scope dV kV doc pm an cdv ct) args (ps.zip us)) (r : Vals vs us) (hl : vs.length = ps.length)
    (hbody : tWSs (cxOf CX P w K mg base N qual scope f cdv A outer s H E) false body { nx := fun _ H' => Q .non H', rt := Q } (L2.start N vs) H) :
    codeAny (model P w) A (.call (.ref f) args) (CR CX outer P w H s Q E) s := by
  have KX : K.In s.heap := e0.mod.kin.keeps fun b o e => (e0.bs b o e).1
  have lim : s.heap.NoLimit := e0.mod.nolimit.keeps fun b o e => (e0.bs b o e).1
  have kinds : ∀ y ∈ ps.zip us, scope.names.lookup y.1 = some .local ∨ (scope.names.lookup y.1 = some .cell ∧ ((cellsFrom (s.heap.objs.size + 1) scope.names []).lookup y.1).isSome = true) := fun ⟨n, v⟩ hy => by
    rcases S.par n (List.of_mem_zip hy).1 with q | q
    · exact .inl q
    · exact .inr ⟨q, PySem.W.cellsFrom_some _ _ _ (.inl q)⟩
  refine codeAny_call_function hr.depth (KX _ _ lk) rfl S.co S.gen rfl (PySem.W.codeRec_of KX hcd) (hb _ _ _ _ ?_)
  refine wpAny_newFunctionEnv_cells S.kind kinds fun env he s1 x => ?_
  subst he
  refine ⟨lim.keeps x.toInCall.keep, codeAny_func ?_⟩
  have I : Inv (cxOf CX P w K mg base N qual scope f cdv A outer s H E) [] (L2.start N vs) H s1 := inv_start S hr.hd e0 hl r x
  refine wpAny_mono (hbody [] s1 tk_f I) (fun fl s' hs => ?_) fun e s' hs => hs
  cases fl with
  | ret u =>
    obtain ⟨v, σ', H', J, rv, q⟩ := hs
    exact ⟨v, H', J.os, J.bare, J.base, J.hok, rv, q⟩
  | next =>
    obtain ⟨σ', H', J, q⟩ := hs
    exact ⟨V.non, H', J.os, J.bare, J.base, J.hok, (rfl : Value.none = Value.none), q⟩
  | brk => obtain ⟨_, _, _, q⟩ := hs; exact False.elim q
  | cont => obtain ⟨_, _, _, q⟩ := hs; exact False.elim q
theorem body_it {X : Cx} {σ : L2.St} {H : Hp} {Q : VK} {a C dx : Addr} {fs : List (Str × V)} {nf : Str} {z : Str} {p1 p2 p3 p4 : Pos} (hN : X.N[0]? = some ("self" : Str)) (hvis : Vis X.env.scope "self") (hs : σ[0]? = some (some (.ref a))) (ha : H a = some (.ins C dx fs)) (hc : Cls X.K C) (hn : NoAttr X.K C nf) (hl : fs.lookup nf = some (.str z))
    (hg : Gl X "iter") (hm : X.mg "iter" = none) (hQ : ∀ it, H it = none → X.s_0.heap.objs.size ≤ it → Q (.ref it) (upd H it (SItO z it)))
    (hab : attributeBase (.Name "self" p2) nf X.env (eval (.Name "self" p2) X.env) = eval (.Name "self" p2) X.env := by rfl) : tW X false (.Call (.Name "iter" p1) [.Attribute (.Name "self" p2) nf p3] [] p4) σ H Q := fun pins s k I => by
  have hA : tWA X false [.Attribute (.Name "self" p2) nf p3] σ H (fun vs H1 => rIterS X.s_0.heap.objs.size vs H1 Q) :=
    wa_cons rfl (v_fld hab (tW_of (pe_var hN hvis (by decide) (by decide)) ⟨_, hs, a, C, dx, fs, .str z, rfl, ha, hc, hn, hl, tWA_of pa_nil ⟨z, rfl, hQ⟩⟩))
  refine wpAny_Call_Name_kw (ld_blt I hg hm (show bootBuiltins "iter" = some (.builtin "iter") from by decide +kernel) ?_ (by decide) (by decide))
  exact PyProof.Rows.callWith_builtin1 (thn (hA p4 pins s k I) fun us s1 ⟨vs, H1, I1, r1, q1⟩ => cr_iterS pins s1 σ H1 vs us Q I1 r1 q1) rfl rfl
/-- for x in o, [.. for x in o], o an instance -/
theorem ei_ownS {X : Cx} {tg e : Expr} {τ : TEnv} {M : Mem} {E : XKx} {PI' : List Dat → Mem → (Mem → Prop) → Prop} {C fa : Addr} {fd : FuncData} {qual nf : Str} {st : Stmt} {N : List Str} {p1 p2 p3 p4 p5 : Pos}
    (F : Fun X.K "__iter__" qual st fa fd) (Sc : FnScope N ["self"] (defScope st)) (hbd : defBody st = [.Return (some (.Call (.Name "iter" p1) [.Attribute (.Name "self" p2) nf p3] [] p4)) p5]) (mt : Meth X.K C "__iter__" fa) (hcl : Cls X.K C) (hna : NoAttr X.K C nf) (hm : X.mg "iter" = none) (hr : Room 1 X.A) (hb : Binds X.K fd ["self"] [])
    (hN : N[0]? = some ("self" : Str)) (hvis : Vis (defScope st) "self") (hg : ∀ cdv s H, Gl (cxOf (L2.CX X.prog X.w) X.prog X.w X.K X.mg X.base N qual (defScope st) fa cdv X.A X.stack s H (fun _ _ _ => False)) "iter")
    (h : EX X false e τ M (fun d M1 => ∃ z, d = .obj C [nf] [.str z] ∧ PI' (sgnD z) M1 anyM) E) : EI X tg e τ M PI' E := .mk fun W tk σ G H hE hH R hR hX pins s _ I => by
  have hO := h.run W tk σ G H hE hH (fun v H1 => ∃ a dx z, v = .ref a ∧ H1 a = some (.ins C dx [(nf, .str z)]) ∧ R (Its z) H1) (fun d M1 v G1 H1 ⟨z, ed, hp⟩ s1 h1 dv => by
    subst ed
    obtain ⟨a, dx, vs, rfl, g1, g2, g3⟩ := dv.obj_inv
    obtain ⟨u, rfl, d1⟩ := one_inv g3
    rw [d1.str_inv] at g1
    exact ⟨a, dx, z, rfl, h1.sub _ _ g1, hR _ _ _ _ _ _ hp s1 h1 walkD_str⟩) hX
  refine thn (hO pins s tk_f I) fun v s1 ⟨x, H1, I1, r1, a, dx, z, ex, ea, q⟩ => ?_
  subst ex
  obtain rfl : v = Value.ref a := r1
  obtain ⟨mA, J, _⟩ := ins_get I1.hok ea
  obtain ⟨od, J, _⟩ := J.look
  obtain ⟨m, hF⟩ := I1.fr
  obtain ⟨oc, od2, kV, doc, pm, an, cdv, ct, osl, rfl, lk, hcd⟩ := F.ex
  refine PySem.W.owit_iter hF I1.ok.mod.kin J mt.1 mt.2 ?_
  have hbb := hb s1 [.ref a] I1.kIn rfl
  rw [List.append_nil] at hbb
  refine wpAny_call (codeAny_mono (run_w (CX := L2.CX X.prog X.w) (k := 0) (Q := fun v H' => ∃ it, v = .ref it ∧ H1 it = none ∧ s1.heap.objs.size ≤ it ∧ H' = upd H1 it (SItO z it)) (E := fun _ _ _ => False) (vs := [.ref a]) lk hcd Sc hr I1.env0 hbb (.cons rfl .nil) rfl ?_) fun r s' hq => ?_)
  · rw [hbd]
    refine ws_step' (s_ret ?_)
    refine body_it hN hvis rfl ea hcl hna (by rw [List.lookup_cons, beq_self_eq_true]) (hg _ _ _) hm fun it h1 h2 => ⟨it, rfl, h1, h2, rfl⟩
  · cases r with
    | error e => exact (takes0 (X := X)) e s' (XE.of_call (W := fun _ _ _ _ => False) I1 (fun cls d H' h => h) hq)
    | ok fl =>
      cases fl with
      | next => exact False.elim hq
      | brk => exact False.elim hq
      | cont => exact False.elim hq
      | ret u =>
        obtain ⟨v', H', I', rv, it, ev, hfr, hge, eH⟩ := I1.after hq
        subst ev
        obtain rfl : u = Value.ref it := rv
        subst eH
        obtain ⟨⟨t, ho⟩, _⟩ := (I'.hok it _ upd_same : ObjOk X.prog X.w _ s'.heap it (SItO z it))
        have st0 : s'.heap.IsStrIter it (strIterType z) z t 0 := ⟨_, ho, rfl, rfl⟩
        have hty : strIterType z = "str_ascii_iterator" ∨ strIterType z = "str_iterator" := by unfold strIterType; split <;> simp
        have hfin : PIE X pins σ tg R (.ref it) s' := ⟨it, [it], _, Its z, H1, rfl, by
          have := ItX.inv_drop I' (show (upd H1 it (SItO z it)) it = some (.ext _) from upd_same)
          rwa [ItX.dropH_upd hfr] at this, turn_str it z t (strIterType z) hty, st0, fun b hb => by
          have e : b = it := by simpa using hb
          subst e
          have := ItX.inv_fp I' (show (upd H1 b (SItO z b)) b = some _ from upd_same) (Nat.le_trans I1.sz hge)
          rwa [ItX.dropH_upd hfr] at this, q⟩
        show PySem.W.OwitIt _ _ _ _ (.ref it) s'
        unfold PySem.W.OwitIt
        have hT : s'.TypeIs (.ref it) (strIterType z) := ⟨_, ho, rfl⟩
        rcases hty with e | e
        · rw [e] at hT
          exact wpAny_specialOf (name := Str.ofString "__next__") hT PySem.F.slot_str_ascii_iterator_next.lookup hfin
        · rw [e] at hT
          exact wpAny_specialOf (name := Str.ofString "__next__") hT PySem.F.slot_str_iterator_next.lookup hfin
end Kh

set_option Elab.async false
set_option linter.all false
set_option maxRecDepth 100000
set_option maxHeartbeats 1000000
namespace Kh
open PySem PySem.Spec L2
/-! ### list(a text) -/
theorem vals_of : ∀ {vs : List V} {us : List Value}, vs.length = us.length → (∀ (i : Nat) v u, vs[i]? = some v → us[i]? = some u → RelV v u) → Vals vs us
  | [], [], _, _ => .nil
  | v :: vs, u :: us, hl, h => .cons (h 0 v u rfl rfl) (vals_of (by simpa using hl) fun i a b e1 e2 => h (i + 1) a b (by simpa using e1) (by simpa using e2))
  | [], _ :: _, hl, _ => by simp at hl
  | _ :: _, [], hl, _ => by simp at hl
theorem denL_chs {K : PySem.W.Frag} {G : Hp} : ∀ {l : List Nat}, DenL K G (l.map chD) (l.map fun c => V.str (chS c))
  | [] => .nil
  | c :: l => .cons den_str denL_chs
theorem c_listS {X : Cx} {M : Mem} {P : PK'} {z : Str} (hz : z.length ≤ sizeLine) (h : P (lstD chD (signsL z)) M) (hc : X.calm = true := by rfl) : BC X (.type "list") [.str z] M P := bc_w fun G H vs hH dv Q hP pins s σ us I r => by
  obtain ⟨v, rfl, d⟩ := one_inv dv
  have ed := d.str_inv
  subst ed
  cases r with
  | cons r1 rr =>
    cases rr
    obtain ⟨t, rfl⟩ := r1
    refine call_list_str (I.ok.hd hc) z t (fun h' tk acc c' hk hS' hacc => ?_) hz
    have hf : H s.heap.objs.size = none := I.hok.fresh (Nat.le_refl _)
    obtain ⟨s2, h2⟩ := Stp.new (o := .lst ((signsL z).map fun c => V.str (chS c))) hH hf
    refine ⟨.ref s.heap.objs.size, upd H s.heap.objs.size (.lst ((signsL z).map fun c => V.str (chS c))), I.laid (t' := tk) (fun b u e => hk b u e) (Nat.le_refl _) ⟨by rw [List.length_map]; exact hz, acc.toList, c', ?_, by rw [Array.toArray_toList]; exact hS'⟩, rfl, hP _ _ _ _ _ h s2 h2 (den_lst upd_same denL_chs)⟩
    refine vals_of ?_ ?_
    · have := hacc.1
      simp [signsL, this]
    · intro i v u e1 e2
      rw [List.getElem?_map] at e1
      cases q : (signsL z)[i]? with
      | none => rw [q] at e1; cases e1
      | some c =>
        rw [q] at e1
        cases e1
        obtain ⟨c2, t2, g1, g2⟩ := hacc.2 i u (by rw [← Array.getElem?_toList]; exact e2)
        rw [← Array.getElem?_toList] at g1
        rw [show z.cps.toList = signsL z from rfl, q] at g1
        cases g1
        exact ⟨t2, g2⟩
/-- a list from a text's signs: of what is wanted -/
def plistS (z : Str) : Res (List Nat) := guard (z.length ≤ sizeLine) (signsL z)
theorem r_listS {X : Cx} {M : Mem} {P : PK'} {z : Str} {Q : List Nat → Prop} {E1 : Er → Prop} (h : (plistS z).Out Q E1) (hk : ∀ l, Q l → P (lstD chD l) M) (hc : X.calm = true := by rfl) : BC X (.type "list") [.str z] M P := c_listS (gd h).1 (hk _ (gd h).2) hc
end Kh

set_option Elab.async false
set_option linter.all false
set_option maxRecDepth 100000
set_option maxHeartbeats 4000000
namespace Kh
open PySem PySem.Spec L2
open PySem.W PySem.Calls PyProof.Rows PySem.HandSPX

/-! ### several except clauses, each 'except C as n' -/
/-- what the clauses wish of an exception of the body, one after the other -/
def wAsN (K : PySem.W.Frag) (Wout : WX) (D : Ends) : List (Value × Nat × (Addr → Value → Option Addr → TS)) → WX
  | [] => Wout
  | (c, i, ts) :: r => fun cls d σ H => ∃ b, PySem.W.exmOne K cls c = some b ∧
      (b = true → ∀ a, H a = none → ts a cls d { nx := fun σ' H' => D.nx (σ'.set i none) H', rt := D.rt, bk := fun σ' H' => D.bk (σ'.set i none) H', ct := fun σ' H' => D.ct (σ'.set i none) H' } (σ.set i (some (.ref a))) H) ∧
      (b = false → wAsN K Wout D r cls d σ H)
/-- a clause: class's name, class, name told, suite -/
structure Cl where
  x : Str
  np : Pos
  c : Value
  n : Str
  b₀ : Stmt
  suite : List Stmt
  pos : Pos
def Cl.hd (l : Cl) : ExceptHandler := .ExceptHandler (some (.Name l.x l.np)) (some l.n) (l.b₀ :: l.suite) l.pos
inductive HdsN (X : Cx) : List Cl → List (Value × Nat × (Addr → Value → Option Addr → TS)) → Prop
  | nil : HdsN X [] []
  | cons {l : Cl} {i : Nat} {ts : Addr → Value → Option Addr → TS} {ls : List Cl} {r : List (Value × Nat × (Addr → Value → Option Addr → TS))} (hc : Names X l.x l.c) (hi : X.N[i]? = some l.n) (hln : X.env.kindOf l.n = some .local)
      (hsu : ∀ (a : Addr) (oe : Obj) (cls : Value) (d : Option Addr) (pn : List (Addr × Obj)), Zc cls d oe → (∃ vs, oe.data = .fields vs) → PSs (X.suite a ((a, oe) :: pn)) (l.b₀ :: l.suite) (ts a cls d)) (hr : HdsN X ls r) :
      HdsN X (l :: ls) ((l.c, i, ts) :: r)
section
variable {X : Cx} {body : List Stmt} {l₀ : Cl} {ls : List Cl} {r : List (Value × Nat × (Addr → Value → Option Addr → TS))} {pos : Pos} {tb : WX → TS} {Wout : WX}
theorem ps_try_asN (hs : X.stack = X.env :: X.outer) (hf : X.env.frame = some X.env.locals) (hN : X.N.Nodup) (tk : Takes X Wout)
    (hb : ∀ (W : WX) (pn : List (Addr × Obj)) (xe : Value → Shared → Prop), Takes (X.tr pn xe) W → PassesOwn (model X.prog X.w) X.A X.env xe → PSs (X.tr pn xe) body (tb W))
    (hh : HdsN X (l₀ :: ls) r) : PS X (.Try body (l₀.hd :: ls.map Cl.hd) [] [] pos) (fun D σ H => tb (wAsN X.K Wout D r) D σ H) := by
  refine ⟨fun pins s σ H D I h => ?_⟩
  have ok := I.ok
  have hfr : X.A.frames = some (X.env :: X.outer) := by rw [ok.frames, hs]
  refine wpAny_Try_except ?_
  refine wpAny_mono ((hb (wAsN X.K Wout D r) (X.pn ++ pins) (fun e s₁ => wpAny (model X.prog X.w) X.A (noteFrame e X.env) (fun _ s₂ => wpAny (model X.prog X.w) X.A (setFlight e none) (fun _ s₃ =>
    wpAny (model X.prog X.w) X.A (handleBy e X.env (l₀.hd :: ls.map Cl.hd)) (SP X pins D) X.xe s₃) X.xe s₂) X.xe s₁) (fun u s' xx => ?_) PassesOwn.looking).run [] s σ H D (I.toTry _) h) (fun f s1 hsp => ?_) (fun e s1 he => he)
  · -- the catch
    obtain ⟨a, B, sI, pins', σ', H', cls, d, rfl, J', nb, up, sky, na, os, ag, w⟩ := xx
    have J : Inv X pins σ' H' sI := J'.ofTry ok
    have sky' : Sky B (X.env :: X.outer) a (Zc cls d) X.env.locals s'.heap := by rw [← hs]; exact sky
    show wpAny (model X.prog X.w) X.A (noteFrame (.ref a) X.env) _ _ _
    refine Sky.land Zc.steady hfr hf sky' fun h3 fl3 up3 => ?_
    have J3 : Inv X pins σ' H' { s' with heap := h3 } := J.landed nb fl3.1 (up.trans up3) os ag
    obtain ⟨oe3, vs3, he3, hz3, hd3⟩ := fl3.there
    have notFr : ∀ {h : Heap} {o : Obj} {vs : Array Value}, h.FunFrames B (X.env :: X.outer) → h.get? a = some o → o.data = .fields vs → a ∉ frs (X.env :: X.outer) := fun {h o vs} ff e dd hm => by
      obtain ⟨_, o', e', hnf⟩ := ff.mem hm
      rw [e] at e'; cases e'
      exact hnf _ dd
    have nfr := notFr fl3.2.2.1 he3 hd3
    have nL : a ≠ X.env.locals := fun z => nfr (List.mem_filterMap.mpr ⟨X.env, List.mem_cons_self, by rw [hf, z]⟩)
    have nF : a ∉ X.fs := fun hm => by
      obtain ⟨e, he, q⟩ := List.mem_filterMap.mp hm
      exact nfr (List.mem_filterMap.mpr ⟨e, List.mem_cons_of_mem _ he, q⟩)
    have S3 := J3.suite he3 hd3 na nL nF
    have go : ∀ {ls' : List Cl} {l' : List (Value × Nat × (Addr → Value → Option Addr → TS))}, HdsN X ls' l' → wAsN X.K Wout D l' cls d σ' H' →
        wpAny (model X.prog X.w) X.A (handleBy (.ref a) X.env (ls'.map Cl.hd)) (SP X pins D) X.xe { s' with heap := h3 } := by
      intro ls' l' hk
      induction hk with
      | nil =>
        intro w
        refine wpAny_handleBy_nil ?_
        obtain ⟨k1, k2, k3, oe, vs, T, oT, ts', he, hz, hd, h1, hr⟩ := id fl3
        unfold PySem.passOn
        refine wpAny_bind (wpAny_field he hd h1 ?_)
        rw [if_neg (show ¬ ((Value.ref T == Value.none) = true) from by simp)]
        have fin : wpAny (model X.prog X.w) X.A (setFlight (.ref a) X.env.frame) (fun _ s4 => wpAny (model X.prog X.w) X.A (throw (.ref a) : Sem Flow) (SP X pins D) X.xe s4) X.xe { s' with heap := h3 } := by
          rw [hf]
          refine HandSPX.setFlight_upZ fl3 fun h4 hh4 up4 => wpAny_throw (tk _ _ ?_)
          exact ⟨a, B, sI, pins, σ', H', cls, d, rfl, J, nb, (up.trans up3).trans up4, .inr (.inr (by rw [hs]; exact hh4)), na, os, ag, w⟩
        first
          | exact wpAny_bind (wpAny_pure (wpAny_bind fin))
          | exact wpAny_bind fin
      | @cons l i ts ls2 r2 hc hi hln hsu hr ih =>
        intro w
        obtain ⟨b, hb1, hyes, hno⟩ := w
        show wpAny (model X.prog X.w) X.A (handleBy (.ref a) X.env (.ExceptHandler (some (.Name l.x l.np)) (some l.n) (l.b₀ :: l.suite) l.pos :: ls2.map Cl.hd)) _ _ _
        refine wpAny_handleBy_cons (codeAny_handlers_test ?_) (by intro q; cases q)
        have LT : PySem.W.Looks (model X.prog X.w) h3 (typeOf (.ref a)) cls := fun A Q E s k q => wpAny_typeOf_ref (k _ _ he3) (by rw [hz3.1]; exact q)
        have LM := PySem.W.exm_one (M := model X.prog X.w) (J3.kIn) LT hb1
        have test : ∀ {Q : Value → Shared → Prop} {E : Value → Shared → Prop}, Q l.c { s' with heap := h3 } → wpAny (model X.prog X.w) (X.A.mark (some (.ref a))) (eval (.Name l.x l.np) X.env) Q E { s' with heap := h3 } := fun {Q E} q => by
          obtain ⟨hg, hdbg, hm | ⟨hm, hv, hnn⟩⟩ := hc
          · exact ld_glob (X := X.suite a ((a, oe3) :: (X.pn ++ pins))) S3 hg hm q hdbg
          · exact ld_blt (X := X.suite a ((a, oe3) :: (X.pn ++ pins))) S3 hg hm hv q hnn hdbg
        refine test (LM.here ?_)
        have hloc : Loc X.env.scope l.n := .inl hln
        cases b with
        | true =>
          refine codeAny_handlers_suite_as ?_
          refine HandSPX.lands_againZ fl3 fun h4 fl4 up4 => ?_
          have J4 : Inv X pins σ' H' { s' with heap := h4 } := J.landed nb fl4.1 ((up.trans up3).trans up4) os ag
          obtain ⟨oe4, vs4, he4, hz4, hd4⟩ := fl4.there
          have S4 := J4.suite he4 hd4 na nL nF
          refine store_ok (X := X.suite a ((a, oe4) :: (X.pn ++ pins))) (v := .ref a) S4 hN hi hloc rfl (fun s5 S5 => ?_) (.inr hln)
          refine wpAny_mono ((hsu a oe4 cls d (X.pn ++ pins) hz4 ⟨_, hd4⟩).run [] s5 _ H' _ S5 (hyes rfl a na)) (fun f s6 hsp => ?_) (fun _ _ z => False.elim z)
          have end_ : ∀ {σ6 : L2.St} {H6 : Hp} {Q : Shared → Prop}, Inv (X.suite a ((a, oe4) :: (X.pn ++ pins))) [] σ6 H6 s6 → (∀ s7, Inv X pins (σ6.set i none) H6 s7 → Q s7) →
              wpAny (model X.prog X.w) X.A (do bindName X.env l.n .none; unbindBehindTheSuite X.env l.n l.pos) (fun _ s7 => Q s7) X.xe s6 := fun {σ6 H6 Q} S6 hq => gone_ok (S6.unsuite ok) hN hi hln hq
          cases f with
          | next =>
            obtain ⟨σ6, H6, S6, q6⟩ := hsp
            exact end_ S6 fun s7 J7 => ⟨_, _, J7, q6⟩
          | brk =>
            obtain ⟨σ6, H6, S6, q6⟩ := hsp
            exact end_ S6 fun s7 J7 => ⟨_, _, J7, q6⟩
          | cont =>
            obtain ⟨σ6, H6, S6, q6⟩ := hsp
            exact end_ S6 fun s7 J7 => ⟨_, _, J7, q6⟩
          | ret u =>
            obtain ⟨v6, σ6, H6, S6, r6, q6⟩ := hsp
            exact end_ S6 fun s7 J7 => ⟨_, _, _, J7, r6, q6⟩
        | false =>
          show wpAny _ X.A (handleBy (.ref a) X.env (ls2.map Cl.hd)) _ _ _
          exact ih (hno rfl)
    exact go hh w
  · cases f with
    | next =>
      obtain ⟨σ', H', J', q⟩ := hsp
      exact wpAny_execs_nil ⟨σ', H', J'.ofTry ok, q⟩
    | brk =>
      obtain ⟨σ', H', J', q⟩ := hsp
      exact ⟨σ', H', J'.ofTry ok, q⟩
    | cont =>
      obtain ⟨σ', H', J', q⟩ := hsp
      exact ⟨σ', H', J'.ofTry ok, q⟩
    | ret u =>
      obtain ⟨v, σ', H', J', r, q⟩ := hsp
      exact ⟨v, σ', H', J'.ofTry ok, r, q⟩
end

/-! ### over the judgement of statements -/
/-- the clauses, one after the other, at an exception x of the body -/
def catN (X : Cx) (k : TEnv → Mem → Prop) (R : RK) (x : Exn) (τ : TEnv) (M : Mem) : List Cl → Prop
  | [] => R (.ex x τ) M
  | l :: ls => ∃ b, PySem.W.exmOne X.K (.ref x.C) l.c = some b ∧
      (b = true → x.ns ≠ [] ∧ ∀ a dd oe pn, Zc (.ref x.C) (some dd) oe → (∃ vs, oe.data = .fields vs) → WS (X.suite a ((a, oe) :: pn)) false (l.b₀ :: l.suite) (τ.set (ixIn X.N l.n) (some (.xn a dd x.ns x.ds))) M (suiteR (ixIn X.N l.n) k R)) ∧
      (b = false → catN X k R x τ M ls)
def tryRN (X : Cx) (ls : List Cl) (k : TEnv → Mem → Prop) (R : RK) : RK
  | .nx τ, M => k τ M
  | .ex x τ, M => catN X k R x τ M ls
  | o, M => R o M
/-- what is to be known of the clauses' names -/
inductive ClOk (X : Cx) : List Cl → Prop
  | nil : ClOk X []
  | cons {l : Cl} {ls : List Cl} (hc : Names X l.x l.c) (hi : X.N[ixIn X.N l.n]? = some l.n) (hln : X.env.kindOf l.n = some .local) (hr : ClOk X ls) : ClOk X (l :: ls)
/-- what the suites take -/
def tsN (X : Cx) (l : Cl) : Value × Nat × (Addr → Value → Option Addr → TS) :=
  (l.c, ixIn X.N l.n, fun a cls d D σ H => ∀ oe pn, Zc cls d oe → (∃ vs, oe.data = .fields vs) → tWSs (X.suite a ((a, oe) :: pn)) false (l.b₀ :: l.suite) D σ H)
theorem hdsN {X : Cx} : ∀ {ls : List Cl}, ClOk X ls → HdsN X ls (ls.map (tsN X))
  | _, .nil => .nil
  | _, .cons hc hi hln hr => .cons hc hi hln (fun a oe cls d pn hz hv => ⟨fun pins s σ H D I h => h oe pn hz hv pins s tk_f I⟩) (hdsN hr)
section
variable {X : Cx} {T : Bool} {τ : TEnv} {M : Mem} {R : RK} {rest body : List Stmt} {pos : Pos} {l₀ : Cl} {ls : List Cl}
theorem catN_run {W : WX} {D : Ends} {nx : L2.St → Hp → Prop} {G2 H2 : Hp} {k : TEnv → Mem → Prop} {y : Exn} {τ' : TEnv} {M2 : Mem} (tk : Takes X W) (h2 : Hst X.K G2 M2 H2)
    (hk : ∀ τ3 M3 G3 H3 σ3, k τ3 M3 → Stp G2 M2 H2 G3 M3 H3 → Hst X.K G3 M3 H3 → DenE X.K τ3 G3 σ3 → nx σ3 H3) (hR : CS' X.K G2 M2 H2 R D W)
    {σ' : L2.St} {d : Option Addr} (hE' : DenE X.K τ' G2 σ') (dx : DenX X.K G2 H2 y d) :
    ∀ {ls : List Cl}, ClOk X ls → catN X k R y τ' M2 ls → wAsN X.K W { D with nx := nx } (ls.map (tsN X)) (.ref y.C) d σ' H2
  | [], _, r => hR _ _ _ _ r Stp.refl h2 σ' d hE' dx
  | l :: ls, .cons hc hi hln hr, r => by
    obtain ⟨b, hb, h1, h0⟩ := r
    refine ⟨b, hb, fun e => ?_, fun e => catN_run tk h2 hk hR hE' dx hr (h0 e)⟩
    obtain ⟨hns, h1⟩ := h1 e
    intro a ha oe pn hz hv
    rcases dx with ⟨z, _⟩ | ⟨dd, vs, rfl, hg, dv⟩
    · exact absurd z hns
    · refine fun pins s kt I => ?_
      have hl2 := I.len
      have hlt2 : ixIn X.N l.n < σ'.length := by
        have : (σ'.set (ixIn X.N l.n) (some (.ref a))).length = X.N.length := hl2
        rw [List.length_set] at this
        rw [this]; exact (List.getElem?_eq_some_iff.mp hi).1
      refine (h1 a dd oe pn hz hv).run _ takes0 (σ'.set (ixIn X.N l.n) (some (.ref a))) G2 H2 (hE'.set hlt2 (by simp only [Den, true_and]; exact ⟨vs, hg, dv⟩)) h2 _ ?_ pins s kt I
      intro o M3 G3 H3 r3 s3 h3
      cases o with
      | nx τ3 => exact fun σ3 e3 => hk _ _ _ _ _ r3 s3 h3 e3.unset
      | rt d => exact fun v dv => hR _ _ _ _ r3 s3 h3 v dv
      | bk τ3 => exact fun σ3 e3 => hR _ _ _ _ r3 s3 h3 _ e3.unset
      | ct τ3 => exact fun σ3 e3 => hR _ _ _ _ r3 s3 h3 _ e3.unset
      | ex z τ3 => exact r3.elim
/-- try: body, except C as n: suite, except .. -/
theorem ws_tryN (hs : X.stack = X.env :: X.outer) (hf : X.env.frame = some X.env.locals) (hc : ClOk X (l₀ :: ls))
    (h : ∀ pn xe, PassesOwn (model X.prog X.w) X.A X.env xe → WS (X.tr pn xe) false body τ M (tryRN X (l₀ :: ls) (fun τ' M' => WS X T rest τ' M' R) R))
    (hN : X.N.Nodup := by first | decide +kernel | exact of_decide_eq_true (by kernel_rfl)) :
    WS X T (.Try body (l₀.hd :: ls.map Cl.hd) [] [] pos :: rest) τ M R := .mk fun W tk σ G H hE hH D hR => by
  refine ws_step (ps_try_asN (r := (l₀ :: ls).map (tsN X)) (tb := fun W D σ H => ∀ pn xe, Takes (X.tr pn xe) W → PassesOwn (model X.prog X.w) X.A X.env xe → tWSs (X.tr pn xe) false body D σ H) hs hf hN tk
    (fun W pn xe tk po => ⟨fun pins s σ H D I h => h pn xe tk po pins s tk_f I⟩) (hdsN hc)) ?_
  intro pn xe tk2 po
  refine (h pn xe po).run _ tk2 σ G H hE hH _ ?_
  intro o M2 G2 H2 r s2 h2
  cases o with
  | nx τ' => exact fun σ' hE' => r.run W tk σ' G2 H2 hE' h2 D (hR.step s2)
  | rt d => exact hR _ _ _ _ r s2 h2
  | bk τ' => exact hR _ _ _ _ r s2 h2
  | ct τ' => exact hR _ _ _ _ r s2 h2
  | ex y τ' =>
    intro σ' d hE' dx
    exact catN_run tk h2 (fun τ3 M3 G3 H3 σ3 q s3 h3 e3 => q.run W tk σ3 G3 H3 e3 h3 D ((hR.step s2).step s3)) (hR.step s2) hE' dx hc r
end
end Kh

set_option Elab.async false
set_option linter.all false
set_option maxRecDepth 100000
set_option maxHeartbeats 1000000
namespace Kh
open PySem PySem.Spec L2
/-! ### an error caught -/
namespace Res
def grab {α : Type} : Res α → (Er → Res α) → Res α
  | .ok a, _ => .ok a
  | .err x, k => k x
  | .bad, _ => .bad
  | .all f, k => .all fun q => (f q).grab k
end Res
section
variable {α : Type}
@[simp] theorem grab_ok {a : α} {k : Er → Res α} : (Res.ok a).grab k = .ok a := rfl
@[simp] theorem grab_err {x : Er} {k : Er → Res α} : (Res.err x).grab k = k x := rfl
theorem grab_out {k : Er → Res α} {P : α → Prop} {E : Er → Prop} : ∀ {m : Res α}, (m.grab k).Out P E → m.Out P (fun x => (k x).Out P E)
  | .ok _, h => h
  | .err _, h => h
  | .bad, h => h
  | .all f, h => fun q => grab_out (m := f q) (h q)
end
/-! ### values of any kind compared -/
mutual
def eqA : Any → Any → Bool
  | .non, .non => true
  | .bl a, .bl b => decide (a = b)
  | .int i, .int j => decide (i = j)
  | .str s, .str t => decide (s = t)
  | .lst xs, .lst ys => eqAL xs ys
  | .tup xs, .tup ys => eqAL xs ys
  | .tag a _, .tag b _ => decide (a = b)
  | .cel a, .cel b => decide (a = b)
  | _, _ => false
def eqAL : List Any → List Any → Bool
  | [], [] => true
  | x :: xs, y :: ys => eqA x y && eqAL xs ys
  | _, _ => false
end
mutual
def dpA : Any → Nat
  | .lst xs => dpAL xs + 1
  | .tup xs => dpAL xs + 1
  | _ => 1
def dpAL : List Any → Nat
  | [] => 0
  | x :: xs => max (dpA x) (dpAL xs)
end
section
variable {cl : OK → Addr × List Str}
mutual
theorem eqA_D : ∀ {x y : Any}, eqA x y = true → eqT (anyD cl x) (anyD cl y) = true
  | .non, y, h => by cases y <;> simp [eqA] at h; simp [anyD, eqT]
  | .bl a, y, h => by cases y <;> simp [eqA] at h; simp [anyD, eqT, h]
  | .int a, y, h => by cases y <;> simp [eqA] at h; simp [anyD, eqT, h]
  | .str a, y, h => by cases y <;> simp [eqA] at h; simp [anyD, eqT, h]
  | .lst xs, y, h => by
    cases y <;> simp [eqA] at h
    simp only [anyD, eqT]; exact eqAL_D h
  | .tup xs, y, h => by
    cases y <;> simp [eqA] at h
    simp only [anyD, eqT]; exact eqAL_D h
  | .tag a _, y, h => by cases y <;> simp [eqA] at h; simp [anyD, eqT, h]
  | .cel a, y, h => by cases y <;> simp [eqA] at h; simp [anyD, eqT, h]
  | .dic, y, h => by cases y <;> simp [eqA] at h
  | .obj _ _, y, h => by cases y <;> simp [eqA] at h
theorem eqAL_D : ∀ {xs ys : List Any}, eqAL xs ys = true → eqTL (anyDL cl xs) (anyDL cl ys) = true
  | [], [], _ => by simp [anyDL, eqTL]
  | x :: xs, y :: ys, h => by
    simp only [eqAL, Bool.and_eq_true] at h
    simp only [anyDL, eqTL, Bool.and_eq_true]
    exact ⟨eqA_D h.1, eqAL_D h.2⟩
  | [], _ :: _, h => by simp [eqAL] at h
  | _ :: _, [], h => by simp [eqAL] at h
end
mutual
theorem dpA_D : ∀ {x : Any}, dpD (anyD cl x) = dpA x
  | .non => by simp [anyD, dpD, dpA]
  | .bl _ => by simp [anyD, dpD, dpA]
  | .int _ => by simp [anyD, dpD, dpA]
  | .str _ => by simp [anyD, dpD, dpA]
  | .lst xs => by simp only [anyD, dpD, dpA]; rw [dpAL_D]
  | .tup xs => by simp only [anyD, dpD, dpA]; rw [dpAL_D]
  | .dic => by simp [anyD, dpD, dpA]
  | .obj _ _ => by simp [anyD, dpD, dpA]
  | .tag _ _ => by simp [anyD, dpD, dpA]
  | .cel _ => by simp [anyD, dpD, dpA]
theorem dpAL_D : ∀ {xs : List Any}, dpDL (anyDL cl xs) = dpAL xs
  | [] => by simp [anyDL, dpDL, dpAL]
  | x :: xs => by simp only [anyDL, dpDL, dpAL]; rw [dpA_D, dpAL_D]
end
end
/-- two lists of values of any kind compared, where they are equal by shape or place -/
def peqA (xs ys : List Any) : Res Bool := guard (eqAL xs ys = true ∧ dpAL xs ≤ 60) true
section
variable {X : Cx} {T : Bool} {M : Mem} {P : PK'} {E1 : Er → Prop} {cl : OK → Addr × List Str} {Q : Bool → Prop} {xs ys : List Any}
theorem r_eqAL (hu : X.A.units + 64 < cLine) (h : (peqA xs ys).Out Q E1) (hk : ∀ b, Q b → P (.bl b) M) : OP X T (compareOp .Eq) (.lst (xs.map (anyD cl))) (.lst (ys.map (anyD cl))) M P := by
  rw [← anyDL_map, ← anyDL_map]
  exact o_eqLT (eqAL_D (gd h).1.1) (by rw [dpAL_D]; exact (gd h).1.2) hu (hk _ (gd h).2)
theorem r_neAL (hu : X.A.units + 64 < cLine) (h : ((peqA xs ys).bind fun b => .ok !b).Out Q E1) (hk : ∀ b, Q b → P (.bl b) M) : OP X T (compareOp .NotEq) (.lst (xs.map (anyD cl))) (.lst (ys.map (anyD cl))) M P := by
  rw [← anyDL_map, ← anyDL_map]
  have g := gd (ob h)
  exact o_neLT (eqAL_D g.1.1) (by rw [dpAL_D]; exact g.1.2) hu (hk _ g.2)
end
/-! ### what a value of any kind is -/
def AsI : Any → Res Int
  | .int i => .ok i
  | _ => .bad
def AsL : Any → Res (List Any)
  | .lst xs => .ok xs
  | _ => .bad
def AsS : Any → Res Str
  | .str s => .ok s
  | _ => .bad
section
variable {cl : OK → Addr × List Str} {E1 : Er → Prop}
theorem asI_out {a : Any} {Q : Int → Prop} (h : (AsI a).Out Q E1) : ∃ i, a = .int i ∧ Q i := by
  cases a <;> first | exact ⟨_, rfl, h⟩ | exact h.elim
theorem asL_out {a : Any} {Q : List Any → Prop} (h : (AsL a).Out Q E1) : ∃ i, a = .lst i ∧ Q i := by
  cases a <;> first | exact ⟨_, rfl, h⟩ | exact h.elim
theorem asS_out {a : Any} {Q : Str → Prop} (h : (AsS a).Out Q E1) : ∃ i, a = .str i ∧ Q i := by
  cases a <;> first | exact ⟨_, rfl, h⟩ | exact h.elim
end
/-- a base type's name -/
def tyA : Any → Option String
  | .non => some "NoneType"
  | .bl _ => some "bool"
  | .int _ => some "int"
  | .str _ => some "str"
  | .lst _ => some "list"
  | .tup _ => some "tuple"
  | .dic => some "dict"
  | .obj _ _ => none
  | .tag _ x => tyA x
  | .cel _ => none
/-- the own class -/
def okA : Any → Option OK
  | .obj k _ => some k
  | .tag _ x => okA x
  | _ => none
theorem tyA_D {K : PySem.W.Frag} {M : Mem} {cl : OK → Addr × List Str} : ∀ {a : Any} {t : String}, tyA a = some t → TyD K M (anyD cl a) (.type t)
  | .non, _, h => by cases h; simp only [anyD]; exact .non
  | .bl _, _, h => by cases h; simp only [anyD]; exact .bl
  | .int _, _, h => by cases h; simp only [anyD]; exact .int
  | .str _, _, h => by cases h; simp only [anyD]; exact .str
  | .lst _, _, h => by cases h; simp only [anyD]; exact .lst
  | .tup _, _, h => by cases h; simp only [anyD]; exact .tup
  | .dic, _, h => by cases h; simp only [anyD]; exact .dic0
  | .obj _ _, _, h => by cases h
  | .cel _, _, h => by cases h
  | .tag _ x, _, h => by simp only [anyD]; exact .at (tyA_D (a := x) h)
theorem okA_D' {K : PySem.W.Frag} {M : Mem} {cl : OK → Addr × List Str} : ∀ {a : Any} {k : OK}, ICls K (cl k).1 → okA a = some k → TyD K M (anyD cl a) (.ref (cl k).1)
  | .obj _ _, _, hc, h => by cases h; simp only [anyD]; exact .obj hc
  | .tag _ x, _, hc, h => by simp only [anyD]; exact .at (okA_D' (a := x) hc h)
  | .non, _, _, h => by cases h
  | .bl _, _, _, h => by cases h
  | .int _, _, _, h => by cases h
  | .str _, _, _, h => by cases h
  | .lst _, _, _, h => by cases h
  | .tup _, _, _, h => by cases h
  | .dic, _, _, h => by cases h
  | .cel _, _, _, h => by cases h
theorem tyA_mem : ∀ {a : Any} {u : String}, tyA a = some u → u ∈ ["NoneType", "bool", "int", "str", "list", "tuple", "dict"]
  | .non, _, h => by cases h; simp
  | .bl _, _, h => by cases h; simp
  | .int _, _, h => by cases h; simp
  | .str _, _, h => by cases h; simp
  | .lst _, _, h => by cases h; simp
  | .tup _, _, h => by cases h; simp
  | .dic, _, h => by cases h; simp
  | .obj _ _, _, h => by cases h
  | .cel _, _, h => by cases h
  | .tag _ x, _, h => tyA_mem (a := x) h
/-- isinstance(a, t) for a base type t; pr: the own classes that are there -/
def pisA (pr : OK → Bool) (t : String) (a : Any) : Res Bool := match tyA a with
  | some u => .ok (u == t || (u == "bool" && t == "int"))
  | none => match okA a with
    | some k => guard (pr k = true) false
    | none => .bad
theorem kitA {K : PySem.W.Frag} {t : String} (ht : t ∈ ["bool", "int", "str", "list", "tuple", "dict"]) {u : String} (h : u ∈ ["NoneType", "bool", "int", "str", "list", "tuple", "dict"]) :
    PySem.W.kitOne K (.type u) (.type t) = some (u == t || (u == "bool" && t == "int")) := by
  simp only [List.mem_cons, List.not_mem_nil, or_false] at h ht
  rcases h with rfl | rfl | rfl | rfl | rfl | rfl | rfl <;> rcases ht with rfl | rfl | rfl | rfl | rfl | rfl <;> rfl
section
variable {X : Cx} {M : Mem} {P : PK'} {E1 : Er → Prop} {cl : OK → Addr × List Str} {Q : Bool → Prop} {pr : OK → Bool} {a : Any}
theorem r_isA {t : String} {cv : V} (hc : ClsV cv (.type t)) (hi : ∀ k, pr k = true → ICls X.K (cl k).1) (hs : ∀ k, pr k = true → PySem.W.subIn X.K (.ref (cl k).1) (.type t) = some false) (h : (pisA pr t a).Out Q E1) (hk : ∀ b, Q b → P (.bl b) M)
    (ht : t ∈ ["bool", "int", "str", "list", "tuple", "dict"] := by decide) : BC X (.builtin "isinstance") [anyD cl a, .raw cv] M P := by
  unfold pisA at h
  cases e : tyA a with
  | some u => rw [e] at h; exact c_isi hc (tyA_D e) (kitA ht (tyA_mem e)) (hk _ h)
  | none =>
    rw [e] at h
    cases e2 : okA a with
    | none => rw [e2] at h; exact h.elim
    | some k =>
      rw [e2] at h
      have g := gd h
      have ty : TyD X.K M (anyD cl a) (.ref (cl k).1) := okA_D' (hi k g.1) e2
      exact c_isi hc ty (kit_ty (hs k g.1) (by simp only [List.mem_cons, List.not_mem_nil, or_false] at ht; rcases ht with rfl | rfl | rfl | rfl | rfl | rfl <;> rfl)) (hk _ g.2)
end
section
variable {X : Cx} {T : Bool} {τ : TEnv} {M : Mem} {P : PK'} {E : XKx} {e : Expr} {E1 : Er → Prop} {cl : OK → Addr × List Str} {a : Any} {pos : Pos} {α : Type}
/-- a value seen as one of any kind -/
theorem ex_asA (h : EX X T e τ M (fun d M1 => ∃ d', d = d' ∧ P d' M1) E) : EX X T e τ M P E := h.imp (fun d M1 ⟨_, e, h⟩ => e ▸ h) fun _ _ h => h
/-- a value of any kind that must be a number -/
theorem ex_asI {Q : Int → Prop} (h : (AsI a).Out Q E1) (hk : EX X T e τ M (fun d M1 => d = anyD cl a ∧ ∀ i, Q i → P (.int i) M1) E) : EX X T e τ M P E :=
  hk.imp (fun d M1 ⟨e, hp⟩ => by obtain ⟨i, rfl, q⟩ := asI_out h; rw [e]; exact hp i q) fun _ _ h => h
theorem ex_asL {Q : List Any → Prop} (h : (AsL a).Out Q E1) (hk : EX X T e τ M (fun d M1 => d = anyD cl a ∧ ∀ i, Q i → P (lstD (anyD cl) i) M1) E) : EX X T e τ M P E :=
  hk.imp (fun d M1 ⟨e, hp⟩ => by
    obtain ⟨i, rfl, q⟩ := asL_out h; rw [e]
    have := hp i q
    simp only [anyD, anyDL_map]; exact this) fun _ _ h => h
theorem ex_asS {Q : Str → Prop} (h : (AsS a).Out Q E1) (hk : EX X T e τ M (fun d M1 => d = anyD cl a ∧ ∀ i, Q i → P (.str i) M1) E) : EX X T e τ M P E :=
  hk.imp (fun d M1 ⟨e, hp⟩ => by obtain ⟨i, rfl, q⟩ := asS_out h; rw [e]; exact hp i q) fun _ _ h => h
/-- {} -/
theorem ex_dicA {f : Addr → Res α} {Q : α → Prop} (h : (Res.all f).Out Q E1) (hk : ∀ q, (f q).Out Q E1 → P (.at q .dic0) M) : EX X T (.Dict [] [] pos) τ M P E := ex_dict0 fun q => hk q (h q)
/-- a made value, told by its place -/
theorem outAll {f : Addr → Res α} {Q : α → Prop} (h : (Res.all f).Out Q E1) : ∀ q, (f q).Out Q E1 := h
theorem ex_tagA (hk : EX X T e τ M (fun d M1 => isR d = true ∧ ∃ d', d = d' ∧ ∃ S : Addr → Prop, (∀ q, S q) ∧ ∀ q, S q → P (.at q d') M1) E) : EX X T e τ M P E :=
  ex_tag (hk.imp (fun d M1 ⟨hr, d', e, S, h, hp⟩ => ⟨hr, fun q => by subst e; exact hp q (h q)⟩) fun _ _ h => h)
end
/-! ### try, as it goes on in one way -/
theorem catN_mono {X : Cx} {k k' : TEnv → Mem → Prop} {R : RK} {x : Exn} {τ : TEnv} {M : Mem} (hk : ∀ τ M, k τ M → k' τ M) : ∀ {ls : List Cl}, catN X k R x τ M ls → catN X k' R x τ M ls
  | [], h => h
  | l :: ls, ⟨b, hb, h1, h0⟩ => ⟨b, hb, fun e => ⟨(h1 e).1, fun a dd oe pn hz hv => ((h1 e).2 a dd oe pn hz hv).imp fun o M2 q => by
      cases o with
      | nx τ => exact hk _ _ q
      | ct τ => exact q
      | bk τ => exact q
      | rt d => exact q
      | ex _ _ => exact q⟩, fun e => catN_mono hk (h0 e)⟩
section
variable {X : Cx} {T : Bool} {τ : TEnv} {M : Mem} {R : RK} {rest body : List Stmt} {pos : Pos} {l₀ : Cl} {ls : List Cl} {α : Type} {E1 : Er → Prop}
/-- how a try's body may end: in J, or by an error of the slots and cells it began with -/
def tryB (ex : Er → Exn) (τ : TEnv) (M : Mem) (J : TEnv → Mem → Prop) (E : Er → Prop) : RK
  | .nx τ', M' => J τ' M'
  | .ex y τ', M' => ∃ x, y = ex x ∧ τ' = τ ∧ M' = M ∧ E x
  | _, _ => False
/-- the same, where what was made on the way is left behind -/
def tryD (ex : Er → Exn) (τ : TEnv) (M : Mem) (J : TEnv → Mem → Prop) (E : Er → Prop) : RK
  | .nx τ', M' => J τ' M'
  | .ex y τ', M' => ∃ A B, M'.Perm (A ++ B) ∧ ∃ x, y = ex x ∧ τ' = τ ∧ A = M ∧ E x
  | _, _ => False
theorem csT {K : PySem.W.Frag} {G H : Hp} {M M0 : Mem} {ex : Er → Exn} {J : TEnv → Mem → Prop} {E : Er → Prop} {D : Ends} {W : WX} (h : CS' K G M H (tryB ex τ M0 J E) D W) : CS' K G M H (tryD ex τ M0 J E) D W := fun o M2 G2 H2 r s h2 => by
  cases o with
  | nx τ => exact h (.nx τ) M2 G2 H2 r s h2
  | rt d => exact r.elim
  | ex x τ => obtain ⟨A, B, pm, r⟩ := r; exact h (.ex x τ) A G2 H2 r (s.perm (List.Perm.refl _) pm).drop (h2.perm pm).drop
  | bk τ => exact r.elim
  | ct τ => exact r.elim
theorem WS.endT {M0 : Mem} {τ0 : TEnv} {ex : Er → Exn} {J : TEnv → Mem → Prop} {E : Er → Prop} {ss : List Stmt} (h : WS X T ss τ M (tryD ex τ0 M0 J E)) : WS X T ss τ M (tryB ex τ0 M0 J E) := .mk fun W tk σ G H hE hH D hR => h.run W tk σ G H hE hH D (csT hR)
theorem tX {ex : Er → Exn} {E : Er → Prop} (L : Mem) {x : Er} (h : E x) : ∃ A B, (L ++ M).Perm (A ++ B) ∧ ∃ x', ex x = ex x' ∧ τ = τ ∧ A = M ∧ E x' := ⟨M, L, List.perm_append_comm, x, rfl, rfl, rfl, h⟩
theorem ws_tryJ (ex : Er → Exn) (J : (α → Prop) → TEnv → Mem → Prop) {mb : Res α} {H : Er → Res α} {Q : α → Prop} (h : (mb.grab H).Out Q E1) (hs : X.stack = X.env :: X.outer) (hf : X.env.frame = some X.env.locals) (hc : ClOk X (l₀ :: ls))
    (hb : mb.Out Q (fun x => (H x).Out Q E1) → ∀ pn xe, PassesOwn (model X.prog X.w) X.A X.env xe → WS (X.tr pn xe) false body τ M (tryD ex τ M (J Q) fun x => (H x).Out Q E1))
    (hx : ∀ x, (H x).Out Q E1 → catN X (J Q) R (ex x) τ M (l₀ :: ls)) (hr : ∀ τ' M', J Q τ' M' → WS X T rest τ' M' R)
    (hN : X.N.Nodup := by first | decide +kernel | exact of_decide_eq_true (by kernel_rfl)) :
    WS X T (.Try body (l₀.hd :: ls.map Cl.hd) [] [] pos :: rest) τ M R := by
  refine ws_tryN hs hf hc (fun pn xe po => (hb (grab_out h) pn xe po).endT.imp ?_) hN
  rintro (τ' | d | τ' | τ' | ⟨y, τ'⟩) M' q
  · exact hr _ _ q
  · exact q.elim
  · exact q.elim
  · exact q.elim
  · obtain ⟨x, rfl, rfl, rfl, q⟩ := q
    exact catN_mono (fun _ _ => hr _ _) (hx x q)
end
/-! ### isinstance to an own class -/
def baseT : List String := ["NoneType", "bool", "int", "str", "list", "tuple", "dict"]
/-- isinstance(a, C): su tells of the own classes -/
def pisO (su : OK → Option Bool) (a : Any) : Res Bool := match tyA a with
  | some _ => .ok false
  | none => match okA a with
    | some k => (match su k with
      | some b => .ok b
      | none => .bad)
    | none => .bad
section
variable {X : Cx} {M : Mem} {P : PK'} {E1 : Er → Prop} {cl : OK → Addr × List Str} {Q : Bool → Prop} {su : OK → Option Bool} {a : Any} {D : Addr}
theorem r_isO {cv : V} (hc : ClsV cv (.ref D)) (ic : PySem.W.isClsIn X.K D = true) (tc : PySem.W.typeIn X.K (.ref D) = some (.type "type"))
    (hs : ∀ k b, su k = some b → ICls X.K (cl k).1 ∧ PySem.W.kitOne X.K (.ref (cl k).1) (.ref D) = some b) (h : (pisO su a).Out Q E1) (hk : ∀ b, Q b → P (.bl b) M)
    (hb : ∀ u ∈ baseT, PySem.W.subIn X.K (.type u) (.ref D) = some false) : BC X (.builtin "isinstance") [anyD cl a, .raw cv] M P := by
  cases e : tyA a with
  | some u => simp only [pisO, e] at h; exact c_isi hc (tyA_D e) (kit_tr ic tc (hb u (tyA_mem e))) (hk _ h)
  | none =>
    cases e2 : okA a with
    | none => simp only [pisO, e, e2] at h; exact h.elim
    | some k =>
      cases e3 : su k with
      | none => simp only [pisO, e, e2, e3] at h; exact h.elim
      | some b =>
        simp only [pisO, e, e2, e3] at h
        exact c_isi hc (okA_D' (hs k b e3).1 e2) (hs k b e3).2 (hk _ h)
theorem base_all {p : String → Prop} (h1 : p "NoneType") (h2 : p "bool") (h3 : p "int") (h4 : p "str") (h5 : p "list") (h6 : p "tuple") (h7 : p "dict") : ∀ u ∈ baseT, p u := by
  intro u hu
  simp only [baseT, List.mem_cons, List.not_mem_nil, or_false] at hu
  rcases hu with rfl | rfl | rfl | rfl | rfl | rfl | rfl <;> assumption
end
end Kh

set_option Elab.async false
set_option linter.all false
set_option maxRecDepth 100000
set_option maxHeartbeats 1000000
namespace Kh
open PySem PySem.Spec L2
open PySem.SeqAt (EqAt RcAt RcNeAt)
/-! ### lists that are told as data or as cells -/
def LsD (M : Mem) (d : Dat) (xs : List Dat) : Prop := d = .lst xs ∨ ∃ q, d = .raw (.ref q) ∧ (q, MC.lst xs) ∈ M
theorem LsD.cell {M : Mem} {q : Addr} {xs ys : List Dat} (e : xs = ys) (h : (q, MC.lst xs) ∈ M) : LsD M (.raw (.ref q)) ys := e ▸ .inr ⟨q, rfl, h⟩
theorem LsD.dat {M : Mem} {xs ys : List Dat} (e : xs = ys) : LsD M (.lst xs) ys := e ▸ .inl rfl
theorem LsD.get {K : PySem.W.Frag} {G H : Hp} {M : Mem} {d : Dat} {xs : List Dat} {v : V} (h : LsD M d xs) (hH : Hst K G M H) (dv : Den K G d v) : ∃ a vs, v = .ref a ∧ H a = some (.lst vs) ∧ DenL K G xs vs := by
  rcases h with rfl | ⟨q, rfl, hm⟩
  · obtain ⟨a, vs, rfl, ga, da⟩ := dv.lst_inv
    exact ⟨a, vs, rfl, hH.sub _ _ ga, da⟩
  · obtain ⟨vs, g1, g2⟩ := hH.mem _ hm
    exact ⟨q, vs, dv.raw_inv, g1, g2⟩
section
variable {X : Cx} {T : Bool} {τ : TEnv} {M : Mem} {P : PK'} {E : XKx} {R : RK} {x y : Dat} {cl : OK → Addr × List Str} {Q : Bool → Prop} {E1 : Er → Prop}
theorem o_neLs {xs ys : List Dat} (lx : LsD M x xs) (ly : LsD M y ys) (h : eqTL xs ys = true) (hd : dpDL xs ≤ 60) (hu : X.A.units + 64 < cLine) (hP : P (.bl false) M) : OP X T (compareOp .NotEq) x y M P := by
  intro G H v u hH dx dy Q hQ pins s σ v' u' _ I r r'
  obtain ⟨a, vs, rfl, ga, da⟩ := lx.get hH dx
  obtain ⟨b, us, rfl, gb, db⟩ := ly.get hH dy
  cases r; cases r'
  obtain ⟨ws, r1, p1, _⟩ := I.list (SqL.of ga)
  obtain ⟨zs, r2, p2, _⟩ := I.list (SqL.of gb)
  have hz : ws.toArray.size = zs.toArray.size := by rw [List.size_toArray, List.size_toArray, ← r1.length, ← r2.length, da.length, db.length, eqTL_len h]
  have := RcNeAt.lists (A := X.A) (e := fun _ => true) p1.isList p2.isList hz (by omega) (fun j h1 h2 => by
    have := eqTL_run I hH.sub xs ys X.A.in1 vs us ws zs h (by show X.A.units + 1 + dpDL xs < cLine; omega) da db r1 r2 j (by simpa using h1) (by simpa using h2)
    simpa using this)
  rw [all_true] at this
  exact this _ _ _ _ ⟨.bl false, H, I, rfl, hQ _ _ _ _ _ hP Stp.refl hH den_bl⟩
theorem o_eqLs {xs ys : List Dat} (lx : LsD M x xs) (ly : LsD M y ys) (h : eqTL xs ys = true) (hd : dpDL xs ≤ 60) (hu : X.A.units + 64 < cLine) (hP : P (.bl true) M) : OP X T (compareOp .Eq) x y M P := by
  intro G H v u hH dx dy Q hQ pins s σ v' u' _ I r r'
  obtain ⟨a, vs, rfl, ga, da⟩ := lx.get hH dx
  obtain ⟨b, us, rfl, gb, db⟩ := ly.get hH dy
  cases r; cases r'
  obtain ⟨ws, r1, p1, _⟩ := I.list (SqL.of ga)
  obtain ⟨zs, r2, p2, _⟩ := I.list (SqL.of gb)
  have hz : ws.toArray.size = zs.toArray.size := by rw [List.size_toArray, List.size_toArray, ← r1.length, ← r2.length, da.length, db.length, eqTL_len h]
  have := RcAt.lists (A := X.A) (e := fun _ => true) p1.isList p2.isList hz (by omega) (fun j h1 h2 => by
    have := eqTL_run I hH.sub xs ys X.A.in1 vs us ws zs h (by show X.A.units + 1 + dpDL xs < cLine; omega) da db r1 r2 j (by simpa using h1) (by simpa using h2)
    simpa using this)
  rw [all_true] at this
  exact this _ _ _ _ ⟨.bl true, H, I, rfl, hQ _ _ _ _ _ hP Stp.refl hH den_bl⟩
theorem r_eqLs {xs ys : List Any} (hu : X.A.units + 64 < cLine) (lx : LsD M x (xs.map (anyD cl))) (ly : LsD M y (ys.map (anyD cl))) (h : (peqA xs ys).Out Q E1) (hk : ∀ b, Q b → P (.bl b) M) : OP X T (compareOp .Eq) x y M P := by
  rw [← anyDL_map] at lx ly
  exact o_eqLs lx ly (eqAL_D (gd h).1.1) (by rw [dpAL_D]; exact (gd h).1.2) hu (hk _ (gd h).2)
theorem r_neLs {xs ys : List Any} (hu : X.A.units + 64 < cLine) (lx : LsD M x (xs.map (anyD cl))) (ly : LsD M y (ys.map (anyD cl))) (h : ((peqA xs ys).bind fun b => .ok !b).Out Q E1) (hk : ∀ b, Q b → P (.bl b) M) : OP X T (compareOp .NotEq) x y M P := by
  rw [← anyDL_map] at lx ly
  have g := gd (ob h)
  exact o_neLs lx ly (eqAL_D g.1.1) (by rw [dpAL_D]; exact g.1.2) hu (hk _ g.2)
theorem nf_ty {K : PySem.W.Frag} {C : Addr} {t : String} (h : PySem.W.subIn K (.type t) (.ref C) = some false) : PySem.W.notFirst K C (.type t) = true := by
  unfold PySem.W.notFirst; rw [h]; simp
/-- a cell's content told otherwise -/
theorem ws_castC {ss : List Stmt} (A : Mem) {B : Mem} {q : Addr} {zs zs' : List Dat} (e : zs = zs') (h : WS X T ss τ (A ++ (q, .lst zs') :: B) R) : WS X T ss τ (A ++ (q, .lst zs) :: B) R := by rw [e]; exact h
end
end Kh

set_option Elab.async false
set_option linter.all false
set_option maxRecDepth 100000
set_option maxHeartbeats 1000000
namespace Kh
open PySem PySem.Spec L2
open PyProof.Rows (boot_range)
/-! ### ranges with steps of any size -/
theorem turn_rangeL {P : Program} {w : World} {K : PySem.W.Frag} {tg : Expr} (it : Addr) (lo c : Int) (n : Nat) : Turn P w K tg (Itc lo c n) [it] it (fun i h => IsLongIter h it (lo + (i : Nat) * c) ((n : Int) - (i : Nat)) c) where
  mem := by simp
  obj := fun i h st b hb => by
    have e : b = it := by simpa using hb
    subst e
    exact ⟨_, st, fun v z => nomatch z⟩
  keep := fun i h h' st k => k it (by simp) _ st
  item := by
    intro X hP hw hK hc i pins s σ H E I hf st hg
    subst hP hw hK
    obtain ⟨f0, f1, f2, f3, f4, f5⟩ := hf it (by simp)
    have W := Walks.longrange (prog := X.prog) (w := X.w) (I.ok.hd hc) it lo c n
    refine W.item i s _ _ hg st fun v h' tk hv st' kk => ?_
    obtain ⟨t, rfl⟩ := hv
    have I1 : Inv X pins σ H { s with heap := h', toks := tk } := I.turned (fun b o hb e => kk b o (by simpa using hb) e) f0 f1 f3 f4 f5
    exact ⟨_, rfl, go_of (s := { s with heap := h', toks := tk }) (n := "longrange_iterator") st' rfl rfl (by decide) ⟨.int (lo + (i : Nat) * c), H, I1, ⟨t, rfl⟩, ⟨rfl, rfl⟩, st', fun b hb => (hf b hb).1⟩⟩
  done := by
    intro X hP hw hK hc i pins s σ H E I hf st hg
    subst hP hw hK
    obtain ⟨f0, f1, f2, f3, f4, f5⟩ := hf it (by simp)
    exact wpAny_pyNext_long_end (I.ok.hd hc) st (by have : n ≤ i := hg; omega) fun h' eb => ⟨rfl, I.turned (t' := s.toks) (fun b o hb e => eb b o hb e) f0 f1 f3 f4 f5⟩
  self := fun A i s Q E st h => wpAny_pyIter_longiter st h
/-- range(i, j, c): c above 0, of less than 8000 bits; n items -/
def RgB (i j c : Int) (n : Nat) : Prop := c ≠ 0 ∧ c.natAbs.log2 < 9000 ∧ Builtin.Range.rangeSize i j c = n
def iRng3B (ta : TA) : TI := fun σ H R => ta σ H fun vs H1 => ∃ (i j c : Int) (n : Nat), vs = [.int i, .int j, .int c] ∧ RgB i j c n ∧ R (Itc i c n) H1
section
variable {X : Cx} {tg : Expr}
theorem pi_range3B {a b c : Expr} {ta : TA} {p pos : Pos} (hg : Gl X "range") (hm : X.mg "range" = none) (ha : PA X [a, b, c] ta)
    (hs : starEach [a, b, c] X.env = (false, eval a X.env) :: starEach [b, c] X.env := by rfl) (hpl : (backTo pos (starEach [b, c] X.env)).any (·.1) = false := by rfl) :
    PI X tg (.Call (.Name "range" p) [a, b, c] [] pos) (iRng3B ta) := by
  refine ⟨fun pins s σ H R I h => ?_⟩
  refine PyProof.Rows.Call_ (ld_blt I hg hm boot_range (PyProof.Rows.callWith_type1 (thn (ha.run pos pins s σ H _ I h) fun us s1 ⟨vs, H1, I1, r1, q1⟩ => ?_) hs hpl))
  obtain ⟨i, j, k, n, e, ⟨c0, c1, c3⟩, q⟩ := q1
  subst e
  cases r1 with
  | cons r rr =>
    cases rr with
    | cons r' rr =>
      cases rr with
      | cons r'' rr =>
        cases rr
        obtain ⟨t, rfl⟩ := r
        obtain ⟨t', rfl⟩ := r'
        obtain ⟨t'', rfl⟩ := r''
        refine call_range_3 c0 ?_ (.inl (PyProof.noPylong_of_log2 c1))
        have I2 : Inv X pins σ H1 { s1 with heap := s1.heap.push { cls := .type "range", data := .fields #[.int i t, .int j t', .int k t''] } } := I1.kept (t' := s1.toks) fun b o e => Heap.get?_push_of_some _ e
        have e1 : i + ((0 : Nat) : Int) * k = i := by simp
        have e2 : (n : Int) - ((0 : Nat) : Int) = Builtin.Range.rangeSize i j k := by rw [c3]; simp
        cases hsm : Builtin.Range.small i j k with
        | true =>
          refine wpAny_pyIter_range (IsRange.new ..) hsm ?_
          refine pi_one (tk := s1.toks) I2 _ (turn_rangeC _ i k n) ?_ q
          show IsRangeIter _ _ (i + ((0 : Nat) : Int) * k) ((n : Int) - ((0 : Nat) : Int)) k
          rw [e1, e2]
          exact Heap.get?_push_size _ rfl
        | false =>
          refine wpAny_pyIter_longrange (IsRange.new ..) hsm ?_
          refine pi_one (tk := s1.toks) I2 _ (turn_rangeL _ i k n) ?_ q
          show IsLongIter _ _ (i + ((0 : Nat) : Int) * k) ((n : Int) - ((0 : Nat) : Int)) k
          rw [e1, e2]
          exact Heap.get?_push_size _ rfl
end
def rng3B (i j c : Int) : Prop := (small62 i ∧ small62 j) ∧ 0 < c ∧ c.natAbs.log2 < 9000
instance {i j c : Int} : Decidable (rng3B i j c) := inferInstanceAs (Decidable (_ ∧ _))
theorem rng3_RgB {i j c : Int} (h : rng3B i j c) : RgB i j c ((j - i + c - 1) / c).toNat := by
  obtain ⟨⟨⟨h1, h2⟩, h3, h4⟩, h5, h6⟩ := h
  have e1 : j - i + c - 1 = (j - i - 1) + 1 * c := by omega
  refine ⟨by omega, h6, ?_⟩
  unfold Builtin.Range.rangeSize
  rw [if_pos (by omega), e1, Int.add_mul_ediv_right _ _ (by omega)]
  split
  · have := Int.ediv_nonneg (a := j - i - 1) (b := c) (by omega) (by omega)
    omega
  · have := Int.ediv_neg_of_neg_of_pos (a := j - i - 1) (b := c) (by omega) (by omega)
    omega
section
variable {X : Cx} {τ : TEnv} {M : Mem} {E : XKx} {a b c tg : Expr} {p pos : Pos} {PI' : List Dat → Mem → (Mem → Prop) → Prop}
theorem ei_range3B (hm : X.mg "range" = none) (h : EX X false a τ M (fun d M1 => EX X false b τ M1 (fun d2 M2 => EX X false c τ M2 (fun d3 M3 => ∃ i j c' n, d = .int i ∧ d2 = .int j ∧ d3 = .int c' ∧ RgB i j c' n ∧ PI' (rngC i c' n) M3 anyM) E) E) E) (hg : Gl X "range" := by rfl)
    (hs : starEach [a, b, c] X.env = (false, eval a X.env) :: starEach [b, c] X.env := by rfl) (hs2 : starEach [b, c] X.env = (false, eval b X.env) :: starEach [c] X.env := by rfl) (hs3 : starEach [c] X.env = (false, eval c X.env) :: starEach [] X.env := by rfl) (hpl : (backTo pos (starEach [b, c] X.env)).any (·.1) = false := by rfl) :
    EI X tg (.Call (.Name "range" p) [a, b, c] [] pos) τ M PI' E := .mk fun W tk σ G H hE hH R hR hX => by
  refine tWI_of (pi_range3B hg hm (pa_cons pe_W (pa_cons pe_W (pa_cons pe_W pa_nil hs3) hs2) hs) hs hpl) ?_
  refine h.run W tk σ G H hE hH _ ?_ hX
  intro d M1 v G1 H1 hb s1 h1 dv
  refine hb.run W tk σ G1 H1 (hE.up s1.gg) h1 _ ?_ (hX.step s1)
  intro d2 M2 v2 G2 H2 hb2 s2 h2 dv2
  refine hb2.run W tk σ G2 H2 ((hE.up s1.gg).up s2.gg) h2 _ ?_ ((hX.step s1).step s2)
  intro d3 M3 v3 G3 H3 ⟨i, j, c', n, ed, ed2, ed3, hrg, hp⟩ s3 h3 dv3
  subst ed; subst ed2; subst ed3
  exact ⟨i, j, c', n, by rw [dv.int_inv, dv2.int_inv, dv3.int_inv], hrg, hR _ _ _ _ _ _ hp ((s1.trans s2).trans s3) h3 walkD_rangeC⟩
theorem ei_rng3B (hm : X.mg "range" = none) (h : EX X false a τ M (fun d M1 => EX X false b τ M1 (fun d2 M2 => EX X false c τ M2 (fun d3 M3 => ∃ i j k, d = .int i ∧ d2 = .int j ∧ d3 = .int k ∧ rng3B i j k ∧ PI' ((rangeC i k ((j - i + k - 1) / k).toNat).map Dat.int) M3 anyM) E) E) E) (hg : Gl X "range" := by rfl)
    (hs : starEach [a, b, c] X.env = (false, eval a X.env) :: starEach [b, c] X.env := by rfl) (hs2 : starEach [b, c] X.env = (false, eval b X.env) :: starEach [c] X.env := by rfl) (hs3 : starEach [c] X.env = (false, eval c X.env) :: starEach [] X.env := by rfl) (hpl : (backTo pos (starEach [b, c] X.env)).any (·.1) = false := by rfl) :
    EI X tg (.Call (.Name "range" p) [a, b, c] [] pos) τ M PI' E :=
  ei_range3B hm (h.imp (fun d M1 h1 => h1.imp (fun d2 M2 h2 => h2.imp (fun d3 M3 ⟨i, j, k, e1, e2, e3, hr, hp⟩ => ⟨i, j, k, _, e1, e2, e3, rng3_RgB hr, by rw [rngC_map]; exact hp⟩) fun _ _ x => x) fun _ _ x => x) fun _ _ x => x) hg hs hs2 hs3 hpl
end
/-! ### == by an own __eq__, as it is found -/
def EqO (pr : Program) (w : World) (K : PySem.W.Frag) (mg : Str → Option Value) (base : Heap) (A : Around) (x y : Dat) (m : Res Bool) : Prop :=
  ∃ (C fa : Addr) (fd : FuncData) (k : Nat) (ps : List Str) (S : Spc) (t : Value), FnD pr w K mg base k fa fd ps S ∧ Room (k + 1) A ∧ Meth K C "__eq__" fa ∧ PySem.W.findIn K (.ref C) "__ne__" = some (some (.builtin "object.__ne__")) ∧ ICls K C ∧ Binds K fd ps [] ∧
    (∀ M, IsI C "__eq__" M x) ∧ (∀ M, TyD K M y t) ∧ PySem.W.notFirst K C t = true ∧ ∀ (M : Mem) (P' : PK') (E' : XKx), m.Out (fun r => P' (.bl r) M) (fun _ => False) → S [x, y] M P' E'
section
variable {X : Cx} {T : Bool} {M : Mem} {P : PK'} {x y : Dat} {m : Res Bool} {Q : Bool → Prop} {E1 : Er → Prop}
theorem r_eqQ (q : EqO X.prog X.w X.K X.mg X.base X.A x y m) (h : m.ne.Out Q E1) (hk : ∀ b, Q b → P (.bl b) M) : OP X T (compareOp .Eq) x y M P := by
  obtain ⟨C, fa, fd, k, ps, S, t, F, hr, mt, _, _, hb, hx, ty, hn, hS⟩ := q
  exact r_eqOwn F (hr.mono (Nat.le_succ _)) mt hb hx ty hn (hS M) h hk
theorem r_neQ (q : EqO X.prog X.w X.K X.mg X.base X.A x y m) (h : m.ne.Out Q E1) (hk : ∀ b, Q b → P (.bl (!b)) M) : OP X T (compareOp .NotEq) x y M P := by
  obtain ⟨C, fa, fd, k, ps, S, t, F, hr, mt, hne, hl, hb, hx, ty, hn, hS⟩ := q
  exact r_neOwn F hr mt hne hl hb hx ty hn (hS M) h hk
end
end Kh

set_option Elab.async false
set_option linter.all false
set_option maxRecDepth 100000
set_option maxHeartbeats 1000000
namespace Kh
open PySem PySem.Spec L2
open PySem.SeqAt PySem.MeetsSeq PySem.MeetsSeq2 PySem.MeetsSeq3 PySem.SeqRoads2
open PySem.AutoSeq1 (wpAny_loadPart')
/-! ### tuples compared, whose items have an own == -/
theorem tuple_eqSt {prog : Program} {w : World} (l b : Addr) (items items2 : Array Value) (n n2 : Nat) (dd dd2 : Option Addr) (sl sl2 : Array (Option Value)) (I : Nat → Shared → Prop) (F : Shared → Prop) :
    MeetsIn prog w (Builtin.«tuple.__eq__» ⟨[.ref l, .ref b], []⟩)
      (fun A R s => s.heap.get? l = some { cls := .type "tuple", dict := dd, data := .seq items n, slots := sl } ∧ s.heap.get? b = some { cls := .type "tuple", dict := dd2, data := .seq items2 n2, slots := sl2 } ∧ I 0 s ∧
        (∀ j (h1 : j < items.size) (h2 : j < items2.size) (s' : Shared), I j s' → ∀ (Q : Bool → Shared → Prop), (∀ t s'', (t = true → I (j + 1) s'') → (t = false → F s'') → Q t s'') → wpAny (model prog w) A.in1 (eqBool items[j] items2[j]) Q (fun e s'' => R (.error e) s'') s') ∧
        (∀ s', I (min items.size items2.size) s' → R (.ok (.ret (.bool (items.size == items2.size)))) s') ∧ (∀ s', F s' → R (.ok (.ret (.bool false))) s')) :=
  .of_wp fun A R s h => by
    obtain ⟨hp, g, d, tk, os⟩ := s; obtain ⟨hl, hb, h0, he, hfin, hno⟩ := h
    have f2 := AutoSeq1.sub_tuple_tuple
    have hZ : (items.toList.zip items2.toList).length = min items.size items2.size := by simp
    wp_walk using wpAny_loadPart' hl, wpAny_loadPart' hb, wpAny_forIn_list _ (fun rest b s' => b.1 = none ∧ ∃ i, rest = (items.toList.zip items2.toList).drop i ∧ i ≤ min items.size items2.size ∧ I i s') _
    case turn =>
      rintro ⟨y, x⟩ rest b s' ⟨hb', i, hz, hle, hI⟩
      have hlt : i < (items.toList.zip items2.toList).length := by
        rcases Nat.lt_or_ge i (items.toList.zip items2.toList).length with h' | h'
        · exact h'
        · rw [List.drop_of_length_le h'] at hz; cases hz
      have hm : i < min items.size items2.size := hZ ▸ hlt
      have h1 : i < items.size := Nat.lt_of_lt_of_le hm (Nat.min_le_left _ _)
      have h2 : i < items2.size := Nat.lt_of_lt_of_le hm (Nat.min_le_right _ _)
      rw [List.drop_eq_getElem_cons hlt] at hz
      injection hz with hyx hrest
      have hy : y = items[i] := by have := congrArg Prod.fst hyx; simpa using this
      have hx : x = items2[i] := by have := congrArg Prod.snd hyx; simpa using this
      subst hy hx
      refine wpAny_bind (he i h1 h2 s' hI _ ?_)
      intro t s'' hT hF
      cases t with
      | true =>
        have hT := hT rfl
        wp_walk
        exact ⟨rfl, i + 1, hrest, hm, hT⟩
      | false =>
        have hF := hno _ (hF rfl)
        wp_walk
        exact ⟨_, rfl, by simpa using hF⟩
    case fin =>
      rintro ⟨b1, b2⟩ s' ⟨hb', i, hz, hle, hI⟩
      simp only at hb'
      subst hb'
      have hge : min items.size items2.size ≤ i := by
        rcases Nat.lt_or_ge i (items.toList.zip items2.toList).length with h' | h'
        · rw [List.drop_eq_getElem_cons h'] at hz; cases hz
        · exact hZ ▸ h'
      have hi : i = min items.size items2.size := Nat.le_antisymm hle hge
      subst hi
      have hR := hfin _ hI
      wp_walk
      exact ⟨_, rfl, by simpa [Builtin.Tuple.tupleCompareSizes] using hR⟩
    case h =>
      exact ⟨rfl, 0, rfl, Nat.zero_le _, h0⟩
/-- what a tuple's == answers, item by item -/
def eqV {α : Type} (me : α → α → Res Bool) : List α → List α → Res Bool
  | [], [] => .ok true
  | x :: xs, y :: ys => (me x y).bind fun t => cond t (eqV me xs ys) (.ok false)
  | _, _ => .ok false
theorem vals_get {vs : List V} {us : List Value} (r : Vals vs us) : ∀ {j : Nat} {a : Addr}, vs[j]? = some (.ref a) → us[j]? = some (.ref a) := by
  induction r with
  | nil => intro j a h; simp at h
  | cons h t ih =>
    intro j a e
    cases j with
    | zero =>
      simp at e; subst e
      obtain rfl := h
      rfl
    | succ j => simpa using ih (by simpa using e)
theorem eqV_end {α : Type} {me : α → α → Res Bool} {xs ys : List α} : eqV me (xs.drop (min xs.length ys.length)) (ys.drop (min xs.length ys.length)) = .ok (xs.length == ys.length) := by
  rcases Nat.lt_trichotomy xs.length ys.length with h | h | h
  · rw [Nat.min_eq_left (by omega), List.drop_length]
    rw [List.drop_eq_getElem_cons h]
    simp [eqV]; omega
  · rw [h, Nat.min_self, ← h, List.drop_length, h, List.drop_length]
    simp [eqV]
  · rw [Nat.min_eq_right (by omega), List.drop_length]
    rw [List.drop_eq_getElem_cons h]
    simp [eqV]; omega
section
variable {X : Cx} {T : Bool} {M : Mem} {P : PK'} {α : Type} {f : α → Dat} {me : α → α → Res Bool} {xs ys : List α} {Q1 : Bool → Prop} {E1 : Er → Prop}
theorem o_eqTup (hel : ∀ x y, EqO X.prog X.w X.K X.mg X.base X.A.in1 (f x) (f y) (me x y)) (hR : ∀ x, isR (f x) = true) (inj : ∀ (G : Hp) x y a, Den X.K G (f x) (.ref a) → Den X.K G (f y) (.ref a) → x = y) (hs : ∀ x, me x x = .ok true)
    (hu : X.A.units + 64 < cLine) (h : (eqV me xs ys).ne.Out Q1 E1) (hk : ∀ b, Q1 b → P (.bl b) M) : OP X T (compareOp .Eq) (.tup (xs.map f)) (.tup (ys.map f)) M P := by
  intro G H v u hH dx dy Q hQ pins s σ v' u' _ I r r'
  obtain ⟨a, vs, rfl, ga, da⟩ := dx.tup_inv
  obtain ⟨b, us, rfl, gb, db⟩ := dy.tup_inv
  cases r; cases r'
  obtain ⟨ws, r1, p1, _⟩ := I.tuple (SqT.of (hH.sub _ _ ga))
  obtain ⟨zs, r2, p2, _⟩ := I.tuple (SqT.of (hH.sub _ _ gb))
  have hw : ws.length = xs.length := by rw [← r1.length, da.length, List.length_map]
  have hz : zs.length = ys.length := by rw [← r2.length, db.length, List.length_map]
  have h : (eqV me xs ys).Out Q1 (fun _ => False) := ne_out h
  obtain ⟨⟨cls, dd, data, sl⟩, ho, hc, n, hd⟩ := id p1
  obtain ⟨⟨cls2, dd2, data2, sl2⟩, ho2, hc2, n2, hd2⟩ := id p2
  simp only at hc hd hc2 hd2
  subst hc hd hc2 hd2
  refine wpAny_richCompare_same_room (T := "tuple") (op := .Eq) ⟨_, ho, rfl⟩ ⟨_, ho2, rfl⟩ F.slot_tuple_eq (call_meetsIn F.slot_tuple_eq ⟨_, ho, rfl⟩ F.entry_tuple_eq (F.args_tuple_eq_2 _ _)
    (tuple_eqSt a b ws.toArray zs.toArray n n2 dd dd2 sl sl2 (fun j s' => ∃ H' G', Inv X pins σ H' s' ∧ Stp G M H G' M H' ∧ Hst X.K G' M H' ∧ (eqV me (xs.drop j) (ys.drop j)).Out Q1 (fun _ => False))
      (fun s' => ∃ H' G', Inv X pins σ H' s' ∧ Stp G M H G' M H' ∧ Hst X.K G' M H' ∧ Q1 false)) ⟨ho, ho2, ⟨H, G, I, Stp.refl, hH, h⟩, ?_, ?_, ?_⟩) (by omega)
  · intro j h1 h2 s' ⟨H', G', I', st, hst, hq⟩ Qb hQb
    have j1 : j < xs.length := by rw [← hw]; simpa using h1
    have j2 : j < ys.length := by rw [← hz]; simpa using h2
    rw [List.drop_eq_getElem_cons j1, List.drop_eq_getElem_cons j2] at hq
    obtain ⟨v1, e1, d1⟩ := da.get (show (xs.map f)[j]? = some (f xs[j]) by rw [List.getElem?_map, List.getElem?_eq_getElem j1]; rfl)
    obtain ⟨v2, e2, d2⟩ := db.get (show (ys.map f)[j]? = some (f ys[j]) by rw [List.getElem?_map, List.getElem?_eq_getElem j2]; rfl)
    obtain ⟨a1, rfl⟩ := den_isR (hR _) d1
    obtain ⟨a2, rfl⟩ := den_isR (hR _) d2
    have w1 : ws.toArray[j] = .ref a1 := by
      have := vals_get r1 e1
      rw [List.getElem?_eq_getElem (by rw [hw]; exact j1)] at this
      simpa using this
    have w2 : zs.toArray[j] = .ref a2 := by
      have := vals_get r2 e2
      rw [List.getElem?_eq_getElem (by rw [hz]; exact j2)] at this
      simpa using this
    rw [w1, w2]
    generalize xs[j] = x at hq d1
    generalize ys[j] = y at hq d2
    by_cases e : a1 = a2
    · subst e
      obtain rfl := inj _ _ _ _ d1 d2
      have hq : ((me x x).bind fun t => cond t (eqV me (xs.drop (j + 1)) (ys.drop (j + 1))) (.ok false)).Out Q1 (fun _ => False) := hq
      rw [hs x, bind_ok, cond_true] at hq
      exact EqAt.same (A := X.A.in1) (s := s') (.ref a1) X.prog X.w _ Qb (hQb true s' (fun _ => ⟨H', G', I', st, hst, hq⟩) (fun z => nomatch z))
    · unfold eqBool
      refine wpAny_holding ?_
      refine wpAny_ite_split (fun hab => absurd (by have := eq_of_beq hab; injection this) e) (fun _ => ?_)
      obtain ⟨C, fa, fd, k, ps, S, t, FF, hrm, mt, _, _, hb, hx, ty, hn, hS⟩ := hel x y
      have dx' := d1.up st.gg
      have dy' := d2.up st.gg
      obtain ⟨a', dxa, fs, ea', ea, _⟩ := (hx M).get hst dx'
      cases ea'
      obtain ⟨mA, J, _⟩ := ins_get I'.hok ea
      obtain ⟨od, J, _⟩ := J.look
      obtain ⟨m, hF⟩ := I'.fr
      have ry : RelV (.ref a2) (Value.ref a2) := rfl
      obtain ⟨Pr, Z, pz, _⟩ := kit_of I' ry (tyD_ok (ty M) hst dy')
      refine wpAny_bind ?_
      have hq2 : (me x y).Out (fun t => (cond t (eqV me (xs.drop (j + 1)) (ys.drop (j + 1))) (.ok false)).Out Q1 (fun _ => False)) (fun _ => False) := ob hq
      have hsp : toSp X.K S [.ref a1, .ref a2] H' (fun z H2 => ∃ t, z = .bl t ∧ ∃ G2, Stp G M H G2 M H2 ∧ Hst X.K G2 M H2 ∧ (cond t (eqV me (xs.drop (j + 1)) (ys.drop (j + 1))) (.ok false)).Out Q1 (fun _ => False)) (fun _ _ _ => False) :=
        ap_toSp (ap_all (hS M (UpP fun d M2 => ∃ t, d = .bl t ∧ M2 = M ∧ (cond t (eqV me (xs.drop (j + 1)) (ys.drop (j + 1))) (.ok false)).Out Q1 (fun _ => False)) (UpP E0') (out_mono hq2 (fun t q => UpP.mk ⟨t, rfl, rfl, q⟩) fun _ z => z))) (.cons dx' (.cons dy' .nil)) hst
          (fun d M2 z G2 H2 ⟨t, ed, em, hp⟩ s2 h2 dz => by subst ed; subst em; exact ⟨t, dz.bl_inv, G2, st.trans s2, h2, hp⟩) noX
      refine PySem.W.cmp_K (op := .Eq) (tb := t) hrm.units0 hF I'.ok.mod.kin J (Z.ty _ _ I'.kIn pz) hn mt.1 mt.2 ?_
      refine wpAny_mono (run_dA (W := fun _ _ _ _ => False) (us := [.ref a1, .ref a2]) (vs := [.ref a1, .ref a2]) FF (hrm.mono (Nat.le_succ _)) I'.env0.in1 hb takes0 I' (.cons rfl (.cons rfl .nil)) hsp) (fun r s2 q => ?_) fun _ _ z => z
      obtain ⟨z, H2, I2, rz, t2, ez, G2, st2, hst2, q⟩ := q
      subst ez
      cases rz
      refine wpAny_truthy_bool (hQb t2 s2 (fun e => ?_) (fun e => ?_))
      · subst e; exact ⟨H2, G2, I2, st2, hst2, q⟩
      · subst e; exact ⟨H2, G2, I2, st2, hst2, q⟩
  · intro s' ⟨H', G', I', st, hst, hq⟩
    have e : min ws.toArray.size zs.toArray.size = min xs.length ys.length := by simp [hw, hz]
    rw [e, eqV_end] at hq
    refine ⟨(fun z => nomatch z), ?_⟩
    have e2 : (ws.toArray.size == zs.toArray.size) = (xs.length == ys.length) := by simp [hw, hz]
    rw [e2]
    exact ⟨.bl _, H', I', rfl, hQ _ _ _ _ _ (hk _ hq) st hst den_bl⟩
  · intro s' ⟨H', G', I', st, hst, hq⟩
    exact ⟨(fun z => nomatch z), ⟨.bl _, H', I', rfl, hQ _ _ _ _ _ (hk _ hq) st hst den_bl⟩⟩
end
/-! instances at one place -/
theorem den_obj_int {K : PySem.W.Frag} {G : Hp} {C C' a : Addr} {f f' : Str} {n m : Int} (d1 : Den K G (.obj C [f] [.int n]) (.ref a)) (d2 : Den K G (.obj C' [f'] [.int m]) (.ref a)) : C = C' ∧ n = m := by
  obtain ⟨a1, x1, v1, e1, g1, _, l1⟩ := d1.obj_inv
  obtain ⟨a2, x2, v2, e2, g2, _, l2⟩ := d2.obj_inv
  cases e1; cases e2
  obtain ⟨v1, r1, rfl, h1, l1⟩ := l1.cons_inv
  obtain ⟨v2, r2, rfl, h2, l2⟩ := l2.cons_inv
  rw [h1.int_inv] at g1; rw [h2.int_inv] at g2
  rw [g1] at g2
  simp at g2
  exact ⟨g2.1, g2.2.2.2⟩
theorem den_obj_cls {K : PySem.W.Frag} {G : Hp} {C C' a : Addr} {ns ns' : List Str} {ds ds' : List Dat} (d1 : Den K G (.obj C ns ds) (.ref a)) (d2 : Den K G (.obj C' ns' ds') (.ref a)) : C = C' := by
  obtain ⟨a1, x1, v1, e1, g1, _, l1⟩ := d1.obj_inv
  obtain ⟨a2, x2, v2, e2, g2, _, l2⟩ := d2.obj_inv
  cases e1; cases e2
  rw [g1] at g2
  injection g2 with g2
  injection g2
theorem cls_ne {K : PySem.W.Frag} {C D : Addr} (h1 : PySem.W.kitOne K (.ref C) (.ref D) = some false) (h2 : PySem.W.kitOne K (.ref D) (.ref D) = some true) (e : C = D) : False := by
  subst e; rw [h1] at h2; cases h2
/-! ### tuples joined and cut -/
theorem denL_nil0 {K : PySem.W.Frag} {G : Hp} {ds : List Dat} (h : DenL K G ds []) : ds = [] := by
  have := h.length; simp at this; exact List.eq_nil_of_length_eq_zero this.symm
section
variable {X : Cx} {T : Bool} {M : Mem} {P : PK'} {α : Type} {E1 : Er → Prop}
theorem o_catT {xs ys : List Dat} (hl : xs.length + ys.length ≤ sizeLine) (h : P (.tup (xs ++ ys)) M) : OP X T (binaryOp .Add) (.tup xs) (.tup ys) M P := op_of op_catA fun G H v u hH dx dy Q hP => by
  obtain ⟨p, vs, rfl, g1, d1⟩ := dx.tup_inv
  obtain ⟨q, us, rfl, g2, d2⟩ := dy.tup_inv
  refine ⟨p, q, vs, us, rfl, rfl, SqT.of (hH.sub _ _ g1), SqT.of (hH.sub _ _ g2), by rw [d1.length, d2.length]; exact hl, ?_, ?_, fun _ _ r hr => ?_⟩
  · intro e
    subst e
    obtain rfl := denL_nil0 d1
    exact hP _ _ _ _ _ h Stp.refl hH dy
  · intro _ e
    subst e
    obtain rfl := denL_nil0 d2
    rw [List.append_nil] at h
    exact hP _ _ _ _ _ h Stp.refl hH dx
  · obtain ⟨s2, h2⟩ := Stp.new (o := .tup (vs ++ us)) hH hr
    exact hP _ _ _ _ _ h s2 h2 (den_tup upd_same ((d1.append d2).up s2.gg))
theorem r_catT (f : α → Dat) {xs ys : List α} {Q : List α → Prop} (h : (pcatL xs ys).Out Q E1) (hk : ∀ z, Q z → P (vtpD f z) M) : OP X T (binaryOp .Add) (vtpD f xs) (vtpD f ys) M P :=
  o_catT (by rw [List.length_map, List.length_map]; exact (gd h).1) (by rw [← List.map_append]; exact hk _ (gd h).2)
theorem l_tupA {ds : List Dat} {lo hi : Option Int} (h : P (.tup (cutD ds lo hi)) M) : SQ X (.tup ds) lo hi M P := ⟨_, sl_tupA, fun G H v hH dx Q hP => by
  obtain ⟨p, vs, rfl, g, dl⟩ := dx.tup_inv
  refine ⟨p, vs, rfl, SqT.of (hH.sub _ _ g), fun hw => ?_, fun _ r hr => ?_⟩
  · rw [dl.length] at hw
    have e : cutD ds lo hi = ds := by
      unfold cutD
      rw [hw.1, hw.2, List.drop_zero, Nat.sub_zero, List.take_length]
    rw [e] at h
    exact hP _ _ _ _ _ h Stp.refl hH dx
  · obtain ⟨s2, h2⟩ := Stp.new (o := .tup (cutV vs lo hi)) hH hr
    exact hP _ _ _ _ _ h s2 h2 (den_tup upd_same ((denL_cut dl).up s2.gg))⟩
theorem l_tupT2 (f : α → Dat) {xs : List α} {lo hi : Option Int} (h : P (vtpD f (cutD xs lo hi)) M) : SQ X (vtpD f xs) lo hi M P := l_tupA (by rw [cutD_map]; exact h)
end
/-- f() -/
theorem ex_callF0 {X : Cx} {T : Bool} {τ : TEnv} {M : Mem} {P : PK'} {E : XKx} {S : Spc} {k : Nat} {f : Addr} {fd : FuncData} {ps : List Str} {x qual : Str} {st : Stmt} {p pos : Pos} (F : FnD X.prog X.w X.K X.mg X.base k f fd ps S) (hr : Room k X.A) (hm : X.mg x = some (.ref f)) (FF : Fun X.K x qual st f fd) (hb : Binds X.K fd ps [])
    (h : S [] M (UpP P) (UpP E)) (hg : Gl X x := by rfl) (hdb : (x == ("__debug__" : Str)) = false := by decide) : EX X T (.Call (.Name x p) [] [] pos) τ M P E :=
  ex_call0 (df := []) (dvs := []) F hr hm FF.kp hb .nil (fun _ => .nil) (ap_all h) hg hdb
end Kh

set_option Elab.async false
set_option linter.all false
set_option maxRecDepth 100000
set_option maxHeartbeats 1000000
namespace Kh
open PySem PySem.Spec L2
/-! ### bits -/
section
variable {X : Cx} {T : Bool} {M : Mem} {P : PK'} {E1 : Er → Prop} {i j : Int}
def pshl (i j : Int) : Res Int := guard (0 ≤ j ∧ j ≤ 1000000 ∧ i.natAbs < 2 ^ 64) (i * 2 ^ j.toNat)
def pshr (i j : Int) : Res Int := guard (0 ≤ j) (i / 2 ^ j.toNat)
theorem r_shl {Q : Int → Prop} (h : (pshl i j).Out Q E1) (hk : ∀ z, Q z → P (.int z) M) : OP X T (binaryOp .LShift) (.int i) (.int j) M P := o_shl (gd h).1 (hk _ (gd h).2)
theorem r_shr {Q : Int → Prop} (h : (pshr i j).Out Q E1) (hk : ∀ z, Q z → P (.int z) M) : OP X T (binaryOp .RShift) (.int i) (.int j) M P := o_shr (gd h).1 (hk _ (gd h).2)
end
/-! ### sorted(set(pairs)) -/
def ltP2 (p q : Int × Int) : Prop := p.1 < q.1 ∨ (p.1 = q.1 ∧ p.2 < q.2)
instance {p q : Int × Int} : Decidable (ltP2 p q) := inferInstanceAs (Decidable (_ ∨ _))
def insU (p : Int × Int) : List (Int × Int) → List (Int × Int)
  | [] => [p]
  | q :: r => if p = q then q :: r else if ltP2 p q then p :: q :: r else q :: insU p r
def sortU : List (Int × Int) → List (Int × Int)
  | [] => []
  | p :: r => insU p (sortU r)
theorem ltP2_irr (p : Int × Int) : ¬ ltP2 p p := by unfold ltP2; omega
theorem ltP2_asy {p q : Int × Int} (h : ltP2 p q) : ¬ ltP2 q p := by unfold ltP2 at *; omega
theorem ltP2_tr {p q r : Int × Int} (h : ltP2 p q) (g : ltP2 q r) : ltP2 p r := by unfold ltP2 at *; omega
theorem ltP2_tot {p q : Int × Int} (h : p ≠ q) (g : ¬ ltP2 p q) : ltP2 q p := by
  unfold ltP2 at *
  have : p.1 ≠ q.1 ∨ p.2 ≠ q.2 := by
    by_cases a : p.1 = q.1
    · right; exact fun b => h (Prod.ext a b)
    · left; exact a
  omega
theorem mem_insU {p x : Int × Int} : ∀ {l : List (Int × Int)}, x ∈ insU p l ↔ x = p ∨ x ∈ l
  | [] => by simp [insU]
  | q :: r => by
    unfold insU
    by_cases a : p = q
    · rw [if_pos a]; subst a; simp
    · rw [if_neg a]
      by_cases b : ltP2 p q
      · rw [if_pos b]; simp
      · rw [if_neg b, List.mem_cons, mem_insU, List.mem_cons]
        constructor
        · rintro (h | h | h)
          · exact .inr (.inl h)
          · exact .inl h
          · exact .inr (.inr h)
        · rintro (h | h | h)
          · exact .inr (.inl h)
          · exact .inl h
          · exact .inr (.inr h)
theorem mem_sortU {x : Int × Int} : ∀ {l : List (Int × Int)}, x ∈ sortU l ↔ x ∈ l
  | [] => by simp [sortU]
  | p :: r => by rw [sortU, mem_insU, mem_sortU, List.mem_cons]
theorem srt_insU {p : Int × Int} : ∀ {l : List (Int × Int)}, l.Pairwise ltP2 → (insU p l).Pairwise ltP2
  | [], _ => by unfold insU; simp
  | q :: r, h => by
    have h1 := List.pairwise_cons.mp h
    unfold insU
    by_cases a : p = q
    · rw [if_pos a]; exact h
    · rw [if_neg a]
      by_cases b : ltP2 p q
      · rw [if_pos b]
        exact List.pairwise_cons.mpr ⟨fun x hx => by
          rcases List.mem_cons.mp hx with e | e
          · rw [e]; exact b
          · exact ltP2_tr b (h1.1 x e), h⟩
      · rw [if_neg b]
        exact List.pairwise_cons.mpr ⟨fun x hx => by
          rcases mem_insU.mp hx with e | e
          · rw [e]; exact ltP2_tot a b
          · exact h1.1 x e, srt_insU h1.2⟩
theorem srt_sortU : ∀ {l : List (Int × Int)}, (sortU l).Pairwise ltP2
  | [] => by simp [sortU]
  | p :: r => by rw [sortU]; exact srt_insU srt_sortU
theorem srt_uniq : ∀ {l m : List (Int × Int)}, l.Pairwise ltP2 → m.Pairwise ltP2 → (∀ x, x ∈ l ↔ x ∈ m) → l = m
  | [], [], _, _, _ => rfl
  | [], b :: m, _, _, h => by have := (h b).mpr List.mem_cons_self; simp at this
  | a :: l, [], _, _, h => by have := (h a).mp List.mem_cons_self; simp at this
  | a :: l, b :: m, h1, h2, h => by
    have p1 := List.pairwise_cons.mp h1
    have p2 := List.pairwise_cons.mp h2
    have e : a = b := by
      rcases List.mem_cons.mp ((h a).mp List.mem_cons_self) with e | e
      · exact e
      · rcases List.mem_cons.mp ((h b).mpr List.mem_cons_self) with g | g
        · exact g.symm
        · exact absurd (p2.1 a e) (ltP2_asy (p1.1 b g))
    subst e
    rw [srt_uniq p1.2 p2.2 fun x => ⟨fun hx => by
      rcases List.mem_cons.mp ((h x).mp (List.mem_cons_of_mem _ hx)) with q | q
      · subst q; exact absurd (p1.1 _ hx) (ltP2_irr _)
      · exact q, fun hx => by
      rcases List.mem_cons.mp ((h x).mpr (List.mem_cons_of_mem _ hx)) with q | q
      · subst q; exact absurd (p2.1 _ hx) (ltP2_irr _)
      · exact q⟩]
theorem code2 {B x y : Int} : TS.code B [x, y] = x * B + y := by
  have e1 : B ^ 1 = B := Int.pow_one B
  have e0 : B ^ 0 = 1 := Int.pow_zero B
  show x * B ^ 1 + (y * B ^ 0 + 0) = x * B + y
  rw [e1, e0, Int.mul_one, Int.add_zero]
theorem code_lt {B : Int} {p q : Int × Int} (hp : 0 ≤ p.2 ∧ p.2 < B) (hq : 0 ≤ q.2 ∧ q.2 < B) (ne : p ≠ q) (h : TS.code B [p.1, p.2] ≤ TS.code B [q.1, q.2]) : ltP2 p q := by
  rw [code2, code2] at h
  unfold ltP2
  rcases Int.lt_trichotomy p.1 q.1 with c | c | c
  · exact .inl c
  · refine .inr ⟨c, ?_⟩
    have : p.2 ≠ q.2 := fun e => ne (Prod.ext c e)
    rw [c] at h
    omega
  · have : (q.1 + 1) * B ≤ p.1 * B := Int.mul_le_mul_of_nonneg_right (by omega) (by omega)
    rw [Int.add_mul] at this
    omega
theorem bound_of : ∀ rows : List (Int × Int), ∃ B : Int, 0 < B ∧ ∀ p ∈ rows, p.1 < B ∧ p.2 < B
  | [] => ⟨1, by decide, fun p h => by simp at h⟩
  | q :: r => by
    obtain ⟨B, h0, h⟩ := bound_of r
    refine ⟨B + (if 0 ≤ q.1 then q.1 else 0) + (if 0 ≤ q.2 then q.2 else 0) + 1, by split <;> split <;> omega, fun p hp => ?_⟩
    rcases List.mem_cons.mp hp with e | e
    · rw [e]; split <;> split <;> omega
    · have := h p e; split <;> split <;> omega
abbrev ipD : Int × Int → Dat := pairD Dat.int Dat.int
abbrev ipL (p : Int × Int) : List Int := [p.1, p.2]
theorem pairs_refs {K : PySem.W.Frag} {G : Hp} : ∀ {rows : List (Int × Int)} {vs : List V}, DenL K G (rows.map ipD) vs → ∃ ks : List (Addr × List Int), vs = ks.map (fun p => V.ref p.1) ∧ ks.map (·.2) = rows.map ipL ∧ ∀ p ∈ ks, G p.1 = some (.tup (p.2.map V.int))
  | [], vs, h => ⟨[], by rw [h.nil_inv]; rfl, rfl, fun p hp => by simp at hp⟩
  | (x, y) :: rows, vs, h => by
    obtain ⟨v, r, rfl, hv, hr⟩ := h.cons_inv
    obtain ⟨ks, e1, e2, e3⟩ := pairs_refs hr
    obtain ⟨b, us, rfl, g, dl⟩ := hv.tup_inv
    obtain ⟨u1, r1, rfl, h1, dl⟩ := dl.cons_inv
    obtain ⟨u2, r2, rfl, h2, dl⟩ := dl.cons_inv
    rw [dl.nil_inv, h1.int_inv, h2.int_inv] at g
    refine ⟨(b, [x, y]) :: ks, by rw [e1]; rfl, by rw [List.map_cons, e2]; rfl, fun p hp => ?_⟩
    rcases List.mem_cons.mp hp with e | e
    · rw [e]; exact g
    · exact e3 p e
theorem refs_pairs {K : PySem.W.Frag} {G : Hp} : ∀ {rows : List (Int × Int)} {ks : List (Addr × List Int)}, ks.map (·.2) = rows.map ipL → (∀ p ∈ ks, G p.1 = some (.tup (p.2.map V.int))) → DenL K G (rows.map ipD) (ks.map fun p => V.ref p.1)
  | [], [], _, _ => .nil
  | [], _ :: _, h, _ => by simp at h
  | _ :: _, [], h, _ => by simp at h
  | (x, y) :: rows, (b, l) :: ks, h, g => by
    rw [List.map_cons, List.map_cons] at h
    injection h with h1 h2
    have g1 := g (b, l) List.mem_cons_self
    have h1 : l = [x, y] := h1
    rw [h1] at g1
    exact .cons (den_tup (ds := [.int x, .int y]) g1 (.cons den_int (.cons den_int .nil))) (refs_pairs h2 fun p hp => g p (List.mem_cons_of_mem _ hp))
section
variable {X : Cx} {T : Bool} {τ : TEnv} {M : Mem} {P : PK'} {E : XKx} {e : Expr} {p1 p2 pos1 pos2 : Pos}
theorem ex_srtSet (hm1 : X.mg "sorted" = none) (hm2 : X.mg "set" = none) (h : EX X T e τ M (fun d M1 => ∃ rows : List (Int × Int), d = lstD ipD rows ∧ (rows.length < 64 ∧ ∀ p ∈ rows, 0 ≤ p.1 ∧ 0 ≤ p.2) ∧ P (lstD ipD (sortU rows)) M1) E) (hu : X.A.units + 64 < cLine) (hc : X.calm = true := by rfl)
    (hg1 : Gl X "sorted" := by rfl) (hg2 : Gl X "set" := by rfl) (he1 : starEach [.Call (.Name "set" p2) [e] [] pos2] X.env = (false, eval (.Call (.Name "set" p2) [e] [] pos2) X.env) :: starEach [] X.env := by rfl) (he2 : starEach [e] X.env = (false, eval e X.env) :: starEach [] X.env := by rfl)
    (hp1 : (backTo pos1 (starEach [] X.env)).any (·.1) = false := by rfl) (hp2 : (backTo pos2 (starEach [] X.env)).any (·.1) = false := by rfl) :
    EX X T (.Call (.Name "sorted" p1) [.Call (.Name "set" p2) [e] [] pos2] [] pos1) τ M P E := by
  refine .mk ?_; intro W tk σ G H hE hH Q hP hX pins s k I
  have hA : tWA X T [.Call (.Name "set" p2) [e] [] pos2] σ H (fun vs H1 => rSortedT X.K X.prog X.w vs H1 Q) := by
    refine wa_cons (Q := fun vs H1 => rSortedT X.K X.prog X.w vs H1 Q) he1 ?_
    intro pins s k I
    have hB : tWA X T [e] σ H (fun vs H1 => rSetOfT X.K X.prog X.w vs H1 (fun x H2 => tWA X T [] σ H2 fun xs H3 => rSortedT X.K X.prog X.w (x :: xs) H3 Q)) := by
      refine wa_cons (Q := fun vs H1 => rSetOfT X.K X.prog X.w vs H1 (fun x H2 => tWA X T [] σ H2 fun xs H3 => rSortedT X.K X.prog X.w (x :: xs) H3 Q)) he2 ?_
      refine h.run W tk σ G H hE hH _ ?_ hX
      intro d M1 v G1 H1 ⟨rows, ed, ⟨hl, hnn⟩, hp⟩ s1 h1 dv
      subst ed
      refine tWA_of pa_nil ?_
      obtain ⟨l, vs, rfl, ga, da⟩ := dv.lst_inv
      obtain ⟨ks, rfl, e2, e3⟩ := pairs_refs da
      have hlen : ks.length = rows.length := by have := congrArg List.length e2; simpa using this
      refine ⟨l, ks, rfl, h1.sub.seq (SqL.of ga), fun p hp => SqT.of (h1.sub _ _ (e3 p hp)), by omega, fun a L ha hL1 hL2 => ?_⟩
      refine tWA_of pa_nil ?_
      obtain ⟨B, hB0, hB⟩ := bound_of rows
      have form : ∀ p ∈ ks, ∃ r ∈ rows, p.2 = ipL r := fun p hp => by
        have : p.2 ∈ ks.map (·.2) := List.mem_map_of_mem hp
        rw [e2] at this
        obtain ⟨r, hr, e⟩ := List.mem_map.mp this
        exact ⟨r, hr, e.symm⟩
      obtain ⟨sA, hA⟩ := Stp.new (o := SetTO X.prog X.w a L) h1 ha
      refine ⟨a, L, 2, B, rfl, upd_same, fun p hp => SqT.of (hA.sub _ _ (sA.gg _ _ (e3 p (hL1 p hp)))), by decide, fun p hp => ?_, fun L' q pm nd hf pw hq => ?_⟩
      · obtain ⟨r, hr, e⟩ := form p (hL1 p hp)
        rw [e]
        refine ⟨rfl, fun m hm => ?_⟩
        have b1 := hB r hr
        have b2 := hnn r hr
        simp at hm
        rcases hm with rfl | rfl <;> omega
      · obtain ⟨sB, hBB⟩ := Stp.new (o := .lst (L'.map fun q => V.ref q.1)) hA hq
        have hin : ∀ p ∈ L', p ∈ ks := fun p hp => hL1 p (pm.mem_iff.mp hp)
        have hr2 : ∃ rows' : List (Int × Int), L'.map (·.2) = rows'.map ipL ∧ ∀ r ∈ rows', r ∈ rows := by
          clear pm nd hf pw hq sB hBB
          induction L' with
          | nil => exact ⟨[], rfl, fun r h => by simp at h⟩
          | cons p L' ih =>
            obtain ⟨rs, f1, f2⟩ := ih fun p hp => hin p (List.mem_cons_of_mem _ hp)
            obtain ⟨r, hr, e⟩ := form p (hin p List.mem_cons_self)
            exact ⟨r :: rs, by rw [List.map_cons, List.map_cons, f1, e], fun x hx => by
              rcases List.mem_cons.mp hx with g | g
              · rw [g]; exact hr
              · exact f2 x g⟩
        obtain ⟨rows', f1, f2⟩ := hr2
        have inj : ∀ x y : Int × Int, ipL x = ipL y → x = y := fun x y e => by
          injection e with a b; injection b with b _; exact Prod.ext a b
        have nd' : rows'.Nodup := by
          rw [f1] at nd
          exact List.Pairwise.of_map ipL (fun _ _ h e => h (by rw [e])) nd
        have pw' : rows'.Pairwise ltP2 := by
          have pw2 : (L'.map (·.2)).Pairwise (fun u v => TS.code B u ≤ TS.code B v) := List.pairwise_map.mpr pw
          rw [f1] at pw2
          have pw3 := List.pairwise_map.mp pw2
          refine (List.pairwise_iff_forall_sublist.mpr ?_)
          intro x y hs
          have hx : x ∈ rows' := hs.subset (by simp)
          have hy : y ∈ rows' := hs.subset (by simp)
          have ne : x ≠ y := fun e => by
            subst e
            have := nd'.sublist hs
            simp at this
          have c := List.pairwise_iff_forall_sublist.mp pw3 hs
          have bx := hB x (f2 x hx); have by' := hB y (f2 y hy)
          have nx := hnn x (f2 x hx); have ny := hnn y (f2 y hy)
          exact code_lt ⟨nx.2, bx.2⟩ ⟨ny.2, by'.2⟩ ne c
        have same : rows' = sortU rows := srt_uniq pw' srt_sortU fun x => by
          rw [mem_sortU]
          refine ⟨f2 x, fun hx => ?_⟩
          have h1 : ipL x ∈ ks.map (·.2) := by rw [e2]; exact List.mem_map_of_mem hx
          obtain ⟨p, hp, e⟩ := List.mem_map.mp h1
          have h2 : p.2 ∈ L.map (·.2) := hL2 p hp
          obtain ⟨p', hp', e'⟩ := List.mem_map.mp h2
          have h3 : p'.2 ∈ L'.map (·.2) := List.mem_map_of_mem (pm.mem_iff.mpr hp')
          rw [f1] at h3
          obtain ⟨z, hz, ez⟩ := List.mem_map.mp h3
          have : z = x := inj _ _ (by rw [ez, e', e])
          rw [← this]; exact hz
        rw [← same] at hp
        exact hP _ _ _ _ _ hp ((s1.trans sA).trans sB) hBB (den_lst upd_same (refs_pairs f1 fun p hp => sB.gg _ _ (sA.gg _ _ (e3 p (hin p hp)))))
    refine wpAny_Call_Name_kw (ld_blt I hg2 hm2 PyProof.Rows.Boot.«set» ?_ (by decide) (by decide))
    exact PyProof.Rows.callWith_type1 (thn (hB pos2 pins s k I) fun us s1 ⟨vs, H1, I1, r1, q1⟩ => cr_setOfT hc hu pins s1 σ H1 vs us _ I1 r1 q1) he2 hp2
  refine wpAny_Call_Name_kw (ld_blt I hg1 hm1 PyProof.Rows.Boot.«sorted» ?_ (by decide) (by decide))
  exact PyProof.Rows.callWith_builtin1 (thn (hA pos1 pins s k I) fun us s1 ⟨vs, H1, I1, r1, q1⟩ => cr_sortedT hc pins s1 σ H1 vs us Q I1 r1 q1) he1 hp1
end
/-! ### for x in an instance whose __iter__ gives iter(a tuple of its own) -/
def itTObj (t : Addr) : Obj := { cls := .type "tuple_iterator", data := .fields #[.ref t, .int 0 0] }
def TItO (t it : Addr) : HO := .ext fun h => h.get? it = some (itTObj t)
theorem titO_ok {P : Program} {w : World} {H : Hp} {h : Heap} {t it : Addr} (e : h.get? it = some (itTObj t)) : ObjOk P w H h it (TItO t it) := ⟨e, ⟨_, e⟩, fun h1 h2 q k => k _ q⟩
theorem call_iterT {prog : Program} {w : World} {A : Around} {E : Value → Shared → Prop} {s : Shared} {t : Addr} {items : Array Value} {Q : Value → Shared → Prop} (ht : s.heap.IsTuple t items) (h : Q (.ref s.heap.objs.size) { s with heap := s.heap.push (itTObj t) }) : wpAny (model prog w) A (call (.builtin "iter") [.ref t]) Q E s := by
  refine Calls.call_function_entry (by decide +kernel) (by decide +kernel) PySem.W.kdk_entry_iter (PySem.W.kdk_args_iter _) ?_
  unfold Builtin.«iter»
  refine wpAny_bind (m := someArgs "iter" 1 2 _) (wpAny_of_eq (a := [Value.ref t]) (by first | rfl | kernel_rfl!) ?_)
  show wpAny _ _ (pyIter (.ref t) >>= _) _ _ _
  refine wpAny_bind (wpAny_pyIter_tuple ht ?_)
  exact wpAny_pure ⟨_, rfl, h⟩
def rIterT (K : PySem.W.Frag) (n : Nat) : List V → Hp → VK → Prop := fun xs H Q => ∃ (l : Addr) (zs : List V), xs = [.ref l] ∧ SqT K H l zs ∧ ∀ it, H it = Option.none → n ≤ it → Q (.ref it) (upd H it (TItO l it))
theorem cr_iterT {X : Cx} : CallR X (.builtin "iter") (rIterT X.K X.s_0.heap.objs.size) := by
  intro pins s σ H xs us Q I r h
  obtain ⟨l, zs, rfl, hq, q⟩ := h
  cases r with
  | cons r1 rr =>
    cases rr
    cases r1
    obtain ⟨its, rv, pl, hz⟩ := I.tuple hq
    refine call_iterT (show s.heap.IsTuple l its.toArray from pl) ?_
    exact ⟨.ref s.heap.objs.size, _, I.laid (t' := s.toks) (fun b u e => Heap.get?_push_of_some _ e) (Nat.le_refl _) (titO_ok (Heap.get?_push_size _ rfl)), rfl, q _ (I.hok.fresh (Nat.le_refl _)) I.sz⟩
theorem body_itT {X : Cx} {σ : L2.St} {H : Hp} {Q : VK} {a C dx : Addr} {fs : List (Str × V)} {nf : Str} {l : Addr} {zs : List V} {p1 p2 p3 p4 : Pos} (hN : X.N[0]? = some ("self" : Str)) (hvis : Vis X.env.scope "self") (hs : σ[0]? = some (some (.ref a))) (ha : H a = some (.ins C dx fs)) (hc : Cls X.K C) (hn : NoAttr X.K C nf) (hl : fs.lookup nf = some (.ref l)) (hz : SqT X.K H l zs)
    (hg : Gl X "iter") (hm : X.mg "iter" = none) (hQ : ∀ it, H it = none → X.s_0.heap.objs.size ≤ it → Q (.ref it) (upd H it (TItO l it)))
    (hab : attributeBase (.Name "self" p2) nf X.env (eval (.Name "self" p2) X.env) = eval (.Name "self" p2) X.env := by rfl) : tW X false (.Call (.Name "iter" p1) [.Attribute (.Name "self" p2) nf p3] [] p4) σ H Q := fun pins s k I => by
  have hA : tWA X false [.Attribute (.Name "self" p2) nf p3] σ H (fun vs H1 => rIterT X.K X.s_0.heap.objs.size vs H1 Q) :=
    wa_cons rfl (v_fld hab (tW_of (pe_var hN hvis (by decide) (by decide)) ⟨_, hs, a, C, dx, fs, .ref l, rfl, ha, hc, hn, hl, tWA_of pa_nil ⟨l, zs, rfl, hz, hQ⟩⟩))
  refine wpAny_Call_Name_kw (ld_blt I hg hm (show bootBuiltins "iter" = some (.builtin "iter") from by decide +kernel) ?_ (by decide) (by decide))
  exact PyProof.Rows.callWith_builtin1 (thn (hA p4 pins s k I) fun us s1 ⟨vs, H1, I1, r1, q1⟩ => cr_iterT pins s1 σ H1 vs us Q I1 r1 q1) rfl rfl
/-- for x in o, [.. for x in o], o an instance -/
theorem ei_ownT {X : Cx} {tg e : Expr} {τ : TEnv} {M : Mem} {E : XKx} {PI' : List Dat → Mem → (Mem → Prop) → Prop} {C fa : Addr} {fd : FuncData} {qual nf : Str} {st : Stmt} {N : List Str} {p1 p2 p3 p4 p5 : Pos}
    (F : Fun X.K "__iter__" qual st fa fd) (Sc : FnScope N ["self"] (defScope st)) (hbd : defBody st = [.Return (some (.Call (.Name "iter" p1) [.Attribute (.Name "self" p2) nf p3] [] p4)) p5]) (mt : Meth X.K C "__iter__" fa) (hcl : Cls X.K C) (hna : NoAttr X.K C nf) (hm : X.mg "iter" = none) (hr : Room 1 X.A) (hb : Binds X.K fd ["self"] [])
    (hN : N[0]? = some ("self" : Str)) (hvis : Vis (defScope st) "self") (hg : ∀ cdv s H, Gl (cxOf (L2.CX X.prog X.w) X.prog X.w X.K X.mg X.base N qual (defScope st) fa cdv X.A X.stack s H (fun _ _ _ => False)) "iter")
    (h : EX X false e τ M (fun d M1 => ∃ ds, d = .obj C [nf] [.tup ds] ∧ PI' ds M1 anyM) E) : EI X tg e τ M PI' E := .mk fun W tk σ G H hE hH R hR hX pins s _ I => by
  have hO := h.run W tk σ G H hE hH (fun v H1 => ∃ a dx z zs, v = .ref a ∧ H1 a = some (.ins C dx [(nf, .ref z)]) ∧ SqT X.K H1 z zs ∧ R (Itt X.K z) H1) (fun d M1 v G1 H1 ⟨ds, ed, hp⟩ s1 h1 dv => by
    subst ed
    obtain ⟨a, dx, vs, rfl, g1, g2, g3⟩ := dv.obj_inv
    obtain ⟨u, rfl, d1⟩ := one_inv g3
    obtain ⟨z, us, rfl, gz, dz⟩ := d1.tup_inv
    exact ⟨a, dx, z, us, rfl, h1.sub _ _ g1, SqT.of (h1.sub _ _ gz), hR _ _ _ _ _ _ hp s1 h1 (walkD_tup (SqT.of gz) dz)⟩) hX
  refine thn (hO pins s tk_f I) fun v s1 ⟨x, H1, I1, r1, a, dx, z, zs, ex, ea, hz, q⟩ => ?_
  subst ex
  obtain rfl : v = Value.ref a := r1
  obtain ⟨mA, J, _⟩ := ins_get I1.hok ea
  obtain ⟨od, J, _⟩ := J.look
  obtain ⟨m, hF⟩ := I1.fr
  obtain ⟨oc, od2, kV, doc, pm, an, cdv, ct, osl, rfl, lk, hcd⟩ := F.ex
  refine PySem.W.owit_iter hF I1.ok.mod.kin J mt.1 mt.2 ?_
  have hbb := hb s1 [.ref a] I1.kIn rfl
  rw [List.append_nil] at hbb
  refine wpAny_call (codeAny_mono (run_w (CX := L2.CX X.prog X.w) (k := 0) (Q := fun v H' => ∃ it, v = .ref it ∧ H1 it = none ∧ s1.heap.objs.size ≤ it ∧ H' = upd H1 it (TItO z it)) (E := fun _ _ _ => False) (vs := [.ref a]) lk hcd Sc hr I1.env0 hbb (.cons rfl .nil) rfl ?_) fun r s' hq => ?_)
  · rw [hbd]
    refine ws_step' (s_ret ?_)
    refine body_itT hN hvis rfl ea hcl hna (by rw [List.lookup_cons, beq_self_eq_true]) hz (hg _ _ _) hm fun it h1 h2 => ⟨it, rfl, h1, h2, rfl⟩
  · cases r with
    | error e => exact (takes0 (X := X)) e s' (XE.of_call (W := fun _ _ _ _ => False) I1 (fun cls d H' h => h) hq)
    | ok fl =>
      cases fl with
      | next => exact False.elim hq
      | brk => exact False.elim hq
      | cont => exact False.elim hq
      | ret u =>
        obtain ⟨v', H', I', rv, it, ev, hfr, hge, eH⟩ := I1.after hq
        subst ev
        obtain rfl : u = Value.ref it := rv
        subst eH
        obtain ⟨ho, _⟩ := (I'.hok it _ upd_same : ObjOk X.prog X.w _ s'.heap it (TItO z it))
        have st0 : s'.heap.IsTupleIter it z 0 := ⟨_, ho, rfl, rfl⟩
        have hfin : PIE X pins σ tg R (.ref it) s' := ⟨it, [it], _, Itt X.K z, H1, rfl, by
          have := ItX.inv_drop I' (show (upd H1 it (TItO z it)) it = some (.ext _) from upd_same)
          rwa [ItX.dropH_upd hfr] at this, turn_tuple z it, st0, fun b hb => by
          have e : b = it := by simpa using hb
          subst e
          have := ItX.inv_fp I' (show (upd H1 b (TItO z b)) b = some _ from upd_same) (Nat.le_trans I1.sz hge)
          rwa [ItX.dropH_upd hfr] at this, q⟩
        show PySem.W.OwitIt _ _ _ _ (.ref it) s'
        unfold PySem.W.OwitIt
        have hT : s'.TypeIs (.ref it) "tuple_iterator" := ⟨_, ho, rfl⟩
        exact wpAny_specialOf (name := Str.ofString "__next__") hT PySem.F.slot_tuple_iterator_next.lookup hfin
end Kh

set_option Elab.async false
set_option linter.all false
set_option maxRecDepth 100000
set_option maxHeartbeats 1000000
namespace Kh
open PySem PySem.Spec L2
/-! ### [y for x in e for y in x] -/
def iFam1 (X : Cx) (scope : Scope) (tg1 iter1 : Expr) : TI := fun σ H R => ∀ (s : Shared) (H0 : Hp) (C : Addr) (cl : List (Str × Addr)) (fp : List Addr), tWI (Cx.Bk X scope s H0 C cl fp) false tg1 iter1 σ H R
theorem pi_fam {X : Cx} {scope : Scope} {tg1 iter1 : Expr} (s : Shared) (H0 : Hp) (C : Addr) (cl : List (Str × Addr)) (fp : List Addr) : PI (Cx.Bk X scope s H0 C cl fp) tg1 iter1 (iFam1 X scope tg1 iter1) := ⟨fun pins s' σ H' R I q => q s H0 C cl fp pins s' tk_f I⟩
section
variable {X : Cx} {T : Bool} {tg iter elt tg1 iter1 : Expr} {τ : TEnv} {M : Mem} {E : XKx} {pos : Pos} {vs vs1 : List Nat} {P : PK'}
theorem flat_read {scope : Scope} (hi : EI X tg iter τ M (fun ds M1 Ok => ∃ xss : List (List Dat), ds = xss.map Dat.lst ∧ xss.flatten.length ≤ sizeLine ∧ Ok M1 ∧ P (.lst xss.flatten) M1 ∧
      ∀ (ds : List Dat) (s : Shared) (H : Hp) (C : Addr) (cl : List (Str × Addr)) (fp : List Addr), GC (Cx.Bk X scope s H C cl fp) vs tg (.lst ds) (wipeT τ vs) M1 (fun τ2 M2 => M2 = M1 ∧
        (∀ (s : Shared) (H : Hp) (C : Addr) (cl : List (Str × Addr)) (fp : List Addr), EI (Cx.Bk X scope s H C cl fp) tg1 iter1 τ2 M1 (fun ds' M3 Ok => ds' = ds ∧ M3 = M1 ∧ Ok M1) E0') ∧
        ∀ (d : Dat) (s : Shared) (H : Hp) (C : Addr) (cl : List (Str × Addr)) (fp : List Addr), GC (Cx.Bk X scope s H C cl fp) vs1 tg1 d (wipeT τ2 vs1) M1 (fun τ3 M4 => M4 = M1 ∧
          ∀ (s : Shared) (H : Hp) (C : Addr) (cl : List (Str × Addr)) (fp : List Addr), EX (Cx.Bk X scope s H C cl fp) false elt τ3 M1 (fun y M5 => y = d ∧ M5 = M1) E0'))) E)
    {W : WX} (tk : Takes X W) {σ : L2.St} {G H : Hp} (hE : DenE X.K τ G σ) (hH : Hst X.K G M H) {Q : VK} (hP : CE' X.K G M H P Q) (hX : CX' X.K G M H E (fun c d H2 => W c d σ H2)) :
    tLc2 (tWI X false tg iter) (gFam X scope tg) (iFam X scope []) (iFam1 X scope tg1 iter1) (gFam X scope tg1) (iFam X scope []) (eFam X scope elt) vs vs1 σ H Q := by
  refine hi.run W tk σ G H hE hH _ ?_ hX
  intro J ds M1 G1 H1 Ok ⟨xss, ed, hz, hOk, hp, hb⟩ s1 h1 w D hD
  subst ed
  have hDH : ∀ b o, b ∉ adr M → H b = some o → b ≠ D := fun b o n e z => by rw [← z, s1.hh b o n e] at hD; cases hD
  let Pv : List Dat → Hp → Prop := fun acc H' => ∃ aV G', Hst X.K G' M1 H' ∧ Stp G M H G' M1 H' ∧ Same G1 G' ∧ H' D = some (.lst aV) ∧ DenL X.K G' acc aV ∧ G' D = none ∧ D ∉ adr M1
  have laid : ∀ {G' H' : Hp} {xs : List V}, Hst X.K G' M1 H' → G' D = none → D ∉ adr M1 → Hst X.K G' M1 (upd H' D (.lst xs)) := fun {G' H' xs} h g n =>
    ⟨fun b o e => by rw [upd_ne (fun z => by rw [z, g] at e; cases e)]; exact h.sub b o e, fun c hc => (h.mem c hc).up (Same.refl _) fun b hb o e => by rw [upd_ne (fun z => n (by rw [← z]; exact List.mem_flatMap.mpr ⟨c, hc, hb⟩))]; exact e, h.out, h.nd⟩
  have stp : ∀ {G' H' : Hp} {xs : List V}, Stp G M H G' M1 H' → Stp G M H G' M1 (upd H' D (.lst xs)) := fun {G' H' xs} s =>
    ⟨s.gg, fun b o n e => by rw [upd_ne (hDH b o n e)]; exact s.hh b o n e, s.fr, s.ad⟩
  have n0 : D ∉ adr M1 := fun z => h1.there D z hD
  have g0 : G1 D = none := h1.sub.free hD
  have len : (xss.map Dat.lst).length = xss.length := List.length_map _
  refine ⟨fun i m H' => m = xss.length - i ∧ i ≤ xss.length ∧ Pv (xss.take i).flatten H', ⟨_, rfl, Nat.zero_le _, [], G1, laid h1 g0 n0, stp s1, Same.refl _, upd_same, .nil, g0, n0⟩, ?_⟩
  rintro i m H' ⟨rfl, hle, aV, G', h', s', g', hDl, hda, hg', hn'⟩
  obtain ⟨w1, w2, w3⟩ := w G' M1 H' g' h' hOk
  rw [len] at w1 w2 w3
  have thru : ∀ {G0 H0 G2 H2 : Hp} {aV : List V} {acc : List Dat}, H0 D = some (.lst aV) → DenL X.K G0 acc aV → G0 D = none → Stp G0 M1 H0 G2 M1 H2 → H2 D = some (.lst aV) ∧ DenL X.K G2 acc aV ∧ G2 D = none := fun {G0 H0 G2 H2 aV acc} a1 a2 a3 s =>
    ⟨s.hh D _ hn' a1, a2.up s.gg, s.fr D (by rw [a1]; exact fun z => nomatch z) hn' a3⟩
  by_cases hlt : i < xss.length
  · refine .inr ⟨w1 i hlt, fun H2 => Pv (xss.take (i + 1)).flatten H2, fun H2 q => ⟨xss.length - (i + 1), by omega, rfl, hlt, q⟩, fun x H2 y => ?_⟩
    obtain ⟨G2, s2, h2, dx⟩ := w3 i x H2 hlt y
    have hd' : (xss.map Dat.lst)[i]? = some (.lst xss[i]) := by rw [List.getElem?_map, List.getElem?_eq_getElem hlt]; rfl
    have eW : DenE X.K (wipeT τ vs) G2 (wipe σ vs) := denE_wipe ((hE.up s'.gg).up s2.gg) vs
    intro sA HA CA clA fpA
    refine hb _ sA HA CA clA fpA (wipe σ vs) G2 H2 x eW h2 (dx _ hd') _ ?_
    rintro τ3 M3 G3 H3 σ3 ⟨rfl, pI, pG⟩ s3 h3 e3 l3 k3
    refine ⟨by rw [wipe_ext l3 k3, wipe_wipe], fun sB HB CB clB fpB => ?_⟩
    refine ef_nil (X := Cx.Bk X scope sB HB CB clB fpB) (P := fun b M4 => b = true ∧ M4 = M3) ⟨rfl, rfl⟩ σ3 G3 H3 e3 h3 _ ?_
    rintro bb M4 G4 H4 ⟨rfl, rfl⟩ s4 h4
    refine iteT fun sC HC CC clC fpC => ?_
    refine (pI sC HC CC clC fpC).run _ takes0 σ3 G4 H4 (e3.up s4.gg) h4 _ ?_ noX
    rintro J1 ds1 M5 G5 H5 Ok1 ⟨rfl, rfl, hOk1⟩ s5 h5 wi
    have s25 := ((s2.trans s3).trans s4).trans s5
    obtain ⟨t1, t2, t3⟩ := thru hDl hda hg' s25
    have e5 := (e3.up s4.gg).up s5.gg
    refine ⟨fun j k H' => k = (xss[i]).length - j ∧ j ≤ (xss[i]).length ∧ ∃ aV G', Hst X.K G' M5 H' ∧ Stp G M H G' M5 H' ∧ Same G5 G' ∧ H' D = some (.lst aV) ∧ DenL X.K G' ((xss.take i).flatten ++ (xss[i]).take j) aV ∧ G' D = none, ⟨_, rfl, Nat.zero_le _, aV, G5, h5, s'.trans s25, Same.refl _, t1, by rw [List.take_zero, List.append_nil]; exact t2, t3⟩, ?_⟩
    rintro j k H6 ⟨rfl, hjle, bV, G6, h6, s6, g6, hDl6, hda6, hg6⟩
    obtain ⟨u1, u2, u3⟩ := wi G6 M5 H6 g6 h6 hOk1
    by_cases hj : j < (xss[i]).length
    · refine .inr ⟨u1 j hj, fun H7 => ∃ aV G', Hst X.K G' M5 H7 ∧ Stp G M H G' M5 H7 ∧ Same G5 G' ∧ H7 D = some (.lst aV) ∧ DenL X.K G' ((xss.take i).flatten ++ (xss[i]).take (j + 1)) aV ∧ G' D = none, fun H7 q => ⟨(xss[i]).length - (j + 1), by omega, rfl, hj, q⟩, fun x7 H7 y7 => ?_⟩
      obtain ⟨G7, s7, h7, dx7⟩ := u3 j x7 H7 hj y7
      have hd7 := List.getElem?_eq_getElem hj
      have eW7 : DenE X.K (wipeT τ3 vs1) G7 (wipe σ3 vs1) := denE_wipe ((e5.up g6).up s7.gg) vs1
      intro sD HD CD clD fpD
      refine pG _ sD HD CD clD fpD (wipe σ3 vs1) G7 H7 x7 eW7 h7 (dx7 _ hd7) _ ?_
      rintro τ8 M8 G8 H8 σ8 ⟨rfl, pE⟩ s8 h8 e8 l8 k8
      refine ⟨by rw [wipe_ext l8 k8, wipe_wipe], fun sE HE CE clE fpE => ?_⟩
      refine ef_nil (X := Cx.Bk X scope sE HE CE clE fpE) (P := fun b M4 => b = true ∧ M4 = M8) ⟨rfl, rfl⟩ σ8 G8 H8 e8 h8 _ ?_
      rintro b9 M9 G9 H9 ⟨rfl, rfl⟩ s9 h9
      refine iteT fun sF HF CF clF fpF => ?_
      refine (pE sF HF CF clF fpF).run _ takes0 σ8 G9 H9 (e8.up s9.gg) h9 _ ?_ noX
      rintro y10 M10 v10 G10 H10 ⟨rfl, rfl⟩ s10 h10 d10
      have s710 := ((s7.trans s8).trans s9).trans s10
      obtain ⟨q1, q2, q3⟩ := thru hDl6 hda6 hg6 s710
      have ht : (xss[i]).take (j + 1) = (xss[i]).take j ++ [(xss[i])[j]] := by rw [List.take_succ, List.getElem?_eq_getElem hj]; rfl
      have hbl : bV.length < sizeLine := by
        rw [hda6.length, List.length_append, List.length_take]
        have e1 : xss.flatten = (xss.take i).flatten ++ ((xss[i]) ++ (xss.drop (i + 1)).flatten) := by
          rw [← List.flatten_cons, ← List.drop_eq_getElem_cons hlt, ← List.flatten_append, List.take_append_drop]
        rw [e1, List.length_append, List.length_append] at hz
        omega
      refine ⟨bV, q1, hbl, bV ++ [v10], G10, laid h10 q3 hn', stp (s6.trans s710), g6.trans s710.gg, upd_same, ?_, q3⟩
      rw [ht, ← List.append_assoc]
      exact q2.snoc d10
    · have ej : j = (xss[i]).length := by omega
      subst ej
      refine .inl ⟨u2, bV, G6, h6, s6, (g'.trans s25.gg).trans g6, hDl6, ?_, hg6, hn'⟩
      rw [List.take_length] at hda6
      have et : (xss.take (i + 1)).flatten = (xss.take i).flatten ++ xss[i] := by rw [List.take_succ, List.getElem?_eq_getElem hlt, List.flatten_append]; simp
      rw [et]; exact hda6
  · have e : i = xss.length := by omega
    subst e
    refine .inl ⟨w2, ?_⟩
    rw [List.take_length] at hda
    have up : Same G' (upd G' D (.lst aV)) := fun b o e => by rw [upd_ne (ne_of_none e hg')]; exact e
    have hF : Hst X.K (upd G' D (.lst aV)) M1 H' := ⟨fun b o e => by
      by_cases c : b = D
      · subst c; rw [upd_same] at e; cases e; exact hDl
      · rw [upd_ne c] at e; exact h'.sub b o e, fun c hc => (h'.mem c hc).up up fun _ _ _ e => e, fun b hb => by rw [upd_ne (fun z => hn' (by rw [← z]; exact hb))]; exact h'.out b hb, h'.nd⟩
    have sF : Stp G M H (upd G' D (.lst aV)) M1 H' := ⟨s'.gg.trans up, s'.hh, fun b hb n g => by
      rw [upd_ne (fun z => ?_)]
      · exact s'.fr b hb n g
      · cases q : H b with
        | none => exact hb q
        | some o => exact hDH b o n q z, s'.ad⟩
    exact hP _ _ _ _ _ hp sF hF (den_lst upd_same (hda.up up))
end
end Kh

set_option Elab.async false
set_option linter.all false
set_option maxRecDepth 100000
set_option maxHeartbeats 1000000
namespace Kh
open PySem PySem.Spec L2
open PySem.SeqAt PySem.MeetsSeq PySem.MeetsSeq2 PySem.MeetsSeq3 PySem.SeqRoads2
open PySem.AutoSeq1 (wpAny_loadPart')
/-! ### lists compared, whose items have an own == -/
section
variable {prog : Program} {w : World} {A : Around} {R : Result → Shared → Prop}
def twoL (l b : Addr) (N : Nat) (s : Shared) : Prop := ∃ (items items2 : Array Value), s.heap.IsList l items ∧ s.heap.IsList b items2 ∧ items.size = N ∧ items2.size = N
/-- at each turn the two lists are read anew -/
def ListJ (prog : Program) (w : World) (A : Around) (E : Value → Shared → Prop) (l b : Addr) (N : Nat) (I F : Nat → Shared → Prop) : Prop :=
  ∀ i s, I i s → ∃ (items items2 : Array Value), s.heap.IsList l items ∧ s.heap.IsList b items2 ∧ items.size = N ∧ items2.size = N ∧
    ∀ (h1 : i < items.size) (h2 : i < items2.size) (Q : Bool → Shared → Prop), (∀ t s'', (t = true → I (i + 1) s'') → (t = false → F i s'') → Q t s'') → wpAny (model prog w) A.in1 (eqBool items[i] items2[i]) Q E s
def lopN (ne : Bool) : Nat := if ne then 3 else 2
theorem eq_loopJ (ne : Bool) (l b : Addr) (N : Nat) (I F : Nat → Shared → Prop) (hl : ListJ prog w A (fun e s' => R (.error e) s') l b N I F)
    (fin : ∀ s, I N s → R (.ok (.ret (.bool (!ne)))) s) (hF : ∀ i s, F i s → twoL l b N s ∧ R (.ok (.ret (.bool ne))) s) (k : Nat) :
    ∀ i : Nat, N - i = k → i ≤ N → ∀ s, I i s →
      wpAny (model prog w) A.in1 (Builtin.«list.__eq__.loop» ⟨[.ref l, .ref b, rawInt i, rawInt (lopN ne)], []⟩) (GQ.FinOf prog w A R) (fun e s' => R (.error e) s') s := by
  induction k with
  | zero =>
    intro i hk hi s h
    obtain ⟨items, items2, ⟨⟨c1, dd, dt, sl⟩, hl1, hc1, n, hd1⟩, ⟨⟨c2, dd2, dt2, sl2⟩, hb1, hc2, n2, hd2⟩, hs1, hs2, _⟩ := hl _ _ h
    simp only at hc1 hd1 hc2 hd2
    subst hc1 hd1 hc2 hd2
    have hi' : i = N := by omega
    have hR : R (.ok (.ret (.bool (!ne)))) s := fin s (hi' ▸ h)
    obtain ⟨hp, g, d, tk, os⟩ := s
    cases ne with
    | false =>
      show wpAny _ _ (Builtin.«list.__eq__.loop» ⟨[.ref l, .ref b, rawInt i, rawInt 2], []⟩) _ _ _
      wp_walk using wpAny_loadPart' hl1, wpAny_loadPart' hb1
      have hi1 : items[((i : Nat) : Int).toNat]? = none := by simp; omega
      have hi2 : items2[((i : Nat) : Int).toNat]? = none := by simp; omega
      rw [hi1, hi2]
      wp_walk using wpAny_loadPart' hl1, wpAny_loadPart' hb1
      show R (.ok (.ret (.bool (items.size == items2.size)))) _
      rw [hs1, hs2]
      simpa using hR
    | true =>
      show wpAny _ _ (Builtin.«list.__eq__.loop» ⟨[.ref l, .ref b, rawInt i, rawInt 3], []⟩) _ _ _
      wp_walk using wpAny_loadPart' hl1, wpAny_loadPart' hb1
      have hi1 : items[((i : Nat) : Int).toNat]? = none := by simp; omega
      have hi2 : items2[((i : Nat) : Int).toNat]? = none := by simp; omega
      rw [hi1, hi2]
      wp_walk using wpAny_loadPart' hl1, wpAny_loadPart' hb1
      show R (.ok (.ret (.bool (items.size != items2.size)))) _
      rw [hs1, hs2]
      simpa using hR
  | succ k ih =>
    intro i hk hi s h
    obtain ⟨items, items2, ⟨⟨c1, dd, dt, sl⟩, hl1, hc1, n, hd1⟩, ⟨⟨c2, dd2, dt2, sl2⟩, hb1, hc2, n2, hd2⟩, hs1, hs2, turn⟩ := hl _ _ h
    simp only at hc1 hd1 hc2 hd2
    subst hc1 hd1 hc2 hd2
    have hlt : i < items.size := by omega
    have hlt2 : i < items2.size := by omega
    have ht := turn hlt hlt2
    obtain ⟨hp, g, d, tk, os⟩ := s
    have hi1 : items[((i : Nat) : Int).toNat]? = some items[i] := by simp [hlt]
    have hi2 : items2[((i : Nat) : Int).toNat]? = some items2[i] := by simp [hlt2]
    have hc : ((i : Int) + 1) = ((i + 1 : Nat) : Int) := by omega
    cases ne with
    | false =>
      show wpAny _ _ (Builtin.«list.__eq__.loop» ⟨[.ref l, .ref b, rawInt i, rawInt 2], []⟩) _ _ _
      wp_walk using wpAny_loadPart' hl1, wpAny_loadPart' hb1
      rw [hi1, hi2]
      refine wpAny_bind (ht _ fun t s2 hT hFl => ?_)
      cases t with
      | true =>
        have hrec := ih (i + 1) (by omega) (by omega) s2 (hT rfl)
        obtain ⟨hp2, g2, d2, tk2, os2⟩ := s2
        wp_walk
        rw [hc]
        exact ⟨plainId_quiet plain_eq_loop _, codeAny_builtin entry_eq_loop (by
          rw [Around.under_plainId plain_eq_loop _]
          exact hrec)⟩
      | false =>
        obtain ⟨⟨it3, it4, ⟨⟨c1, dd3, dt3, sl3⟩, hl2, hc1, n3, hd1⟩, ⟨⟨c2, dd4, dt4, sl4⟩, hb2, hc2, n4, hd2⟩, hs3, hs4⟩, hRf⟩ := hF _ _ (hFl rfl)
        simp only at hc1 hd1 hc2 hd2
        subst hc1 hd1 hc2 hd2
        obtain ⟨hp2, g2, d2, tk2, os2⟩ := s2
        wp_walk using wpAny_loadPart' hl2, wpAny_loadPart' hb2
        have hi3 : it3[((i : Nat) : Int).toNat]? = some (it3[i]'(by omega)) := by simp
        have hi4 : it4[((i : Nat) : Int).toNat]? = some (it4[i]'(by omega)) := by simp
        rw [hi3, hi4]
        wp_walk
        exact hRf
    | true =>
      show wpAny _ _ (Builtin.«list.__eq__.loop» ⟨[.ref l, .ref b, rawInt i, rawInt 3], []⟩) _ _ _
      wp_walk using wpAny_loadPart' hl1, wpAny_loadPart' hb1
      rw [hi1, hi2]
      refine wpAny_bind (ht _ fun t s2 hT hFl => ?_)
      cases t with
      | true =>
        have hrec := ih (i + 1) (by omega) (by omega) s2 (hT rfl)
        obtain ⟨hp2, g2, d2, tk2, os2⟩ := s2
        wp_walk
        rw [hc]
        exact ⟨plainId_quiet plain_eq_loop _, codeAny_builtin entry_eq_loop (by
          rw [Around.under_plainId plain_eq_loop _]
          exact hrec)⟩
      | false =>
        obtain ⟨⟨it3, it4, ⟨⟨c1, dd3, dt3, sl3⟩, hl2, hc1, n3, hd1⟩, ⟨⟨c2, dd4, dt4, sl4⟩, hb2, hc2, n4, hd2⟩, hs3, hs4⟩, hRf⟩ := hF _ _ (hFl rfl)
        simp only at hc1 hd1 hc2 hd2
        subst hc1 hd1 hc2 hd2
        obtain ⟨hp2, g2, d2, tk2, os2⟩ := s2
        wp_walk using wpAny_loadPart' hl2, wpAny_loadPart' hb2
        have hi3 : it3[((i : Nat) : Int).toNat]? = some (it3[i]'(by omega)) := by simp
        have hi4 : it4[((i : Nat) : Int).toNat]? = some (it4[i]'(by omega)) := by simp
        rw [hi3, hi4]
        wp_walk
        exact hRf

theorem list_eqJ (l b : Addr) (N : Nat) (I F : Nat → Shared → Prop) (hl : ListJ prog w A (fun e s' => R (.error e) s') l b N I F)
    (fin : ∀ s, I N s → R (.ok (.ret (.bool true))) s) (hF : ∀ i s, F i s → twoL l b N s ∧ R (.ok (.ret (.bool false))) s) {s : Shared} (h : I 0 s) :
    wpAny (model prog w) A.in1 (Builtin.«list.__eq__» ⟨[.ref l, .ref b], []⟩) (GQ.FinOf prog w A R) (fun e s' => R (.error e) s') s := by
  obtain ⟨items, items2, ⟨⟨c1, dd, dt, sl⟩, hl1, hc1, n, hd1⟩, ⟨⟨c2, dd2, dt2, sl2⟩, hb1, hc2, n2, hd2⟩, hs1, hs2, _⟩ := hl _ _ h
  simp only at hc1 hd1 hc2 hd2
  subst hc1 hd1 hc2 hd2
  have hrec := eq_loopJ (A := A) (R := R) false l b N I F hl fin hF _ 0 rfl (Nat.zero_le _) s h
  obtain ⟨hp, g, d, tk, os⟩ := s
  have f3 := AutoSeq1.sub_list_list
  have hne : ¬ (items.size != items2.size) = true := by simp [hs1, hs2]
  wp_walk using wpAny_loadPart' hl1, wpAny_loadPart' hb1
  exact ⟨plainId_quiet plain_eq_loop _, codeAny_builtin entry_eq_loop (by
    rw [Around.under_plainId plain_eq_loop _]
    exact hrec)⟩
theorem list_neJ (l b : Addr) (N : Nat) (I F : Nat → Shared → Prop) (hl : ListJ prog w A (fun e s' => R (.error e) s') l b N I F)
    (fin : ∀ s, I N s → R (.ok (.ret (.bool false))) s) (hF : ∀ i s, F i s → twoL l b N s ∧ R (.ok (.ret (.bool true))) s) {s : Shared} (h : I 0 s) :
    wpAny (model prog w) A.in1 (Builtin.«list.__ne__» ⟨[.ref l, .ref b], []⟩) (GQ.FinOf prog w A R) (fun e s' => R (.error e) s') s := by
  obtain ⟨items, items2, ⟨⟨c1, dd, dt, sl⟩, hl1, hc1, n, hd1⟩, ⟨⟨c2, dd2, dt2, sl2⟩, hb1, hc2, n2, hd2⟩, hs1, hs2, _⟩ := hl _ _ h
  simp only at hc1 hd1 hc2 hd2
  subst hc1 hd1 hc2 hd2
  have hrec := eq_loopJ (A := A) (R := R) true l b N I F hl fin hF _ 0 rfl (Nat.zero_le _) s h
  obtain ⟨hp, g, d, tk, os⟩ := s
  have f3 := AutoSeq1.sub_list_list
  have hne : ¬ (items.size != items2.size) = true := by simp [hs1, hs2]
  wp_walk using wpAny_loadPart' hl1, wpAny_loadPart' hb1
  exact ⟨plainId_quiet plain_eq_loop _, codeAny_builtin entry_eq_loop (by
    rw [Around.under_plainId plain_eq_loop _]
    exact hrec)⟩
/-- lists of unlike lengths -/
theorem list_eqU (l b : Addr) {items items2 : Array Value} {s : Shared} (hl : s.heap.IsList l items) (hb : s.heap.IsList b items2) (hs : items.size ≠ items2.size) (hR : R (.ok (.ret (.bool false))) s) :
    wpAny (model prog w) A.in1 (Builtin.«list.__eq__» ⟨[.ref l, .ref b], []⟩) (GQ.FinOf prog w A R) (fun e s' => R (.error e) s') s := by
  obtain ⟨⟨c1, dd, dt, sl⟩, hl1, hc1, n, hd1⟩ := hl
  obtain ⟨⟨c2, dd2, dt2, sl2⟩, hb1, hc2, n2, hd2⟩ := hb
  simp only at hc1 hd1 hc2 hd2
  subst hc1 hd1 hc2 hd2
  obtain ⟨hp, g, d, tk, os⟩ := s
  have f3 := AutoSeq1.sub_list_list
  have hne : (items.size != items2.size) = true := by simp [hs]
  wp_walk using wpAny_loadPart' hl1, wpAny_loadPart' hb1
  exact hR
theorem list_neU (l b : Addr) {items items2 : Array Value} {s : Shared} (hl : s.heap.IsList l items) (hb : s.heap.IsList b items2) (hs : items.size ≠ items2.size) (hR : R (.ok (.ret (.bool true))) s) :
    wpAny (model prog w) A.in1 (Builtin.«list.__ne__» ⟨[.ref l, .ref b], []⟩) (GQ.FinOf prog w A R) (fun e s' => R (.error e) s') s := by
  obtain ⟨⟨c1, dd, dt, sl⟩, hl1, hc1, n, hd1⟩ := hl
  obtain ⟨⟨c2, dd2, dt2, sl2⟩, hb1, hc2, n2, hd2⟩ := hb
  simp only at hc1 hd1 hc2 hd2
  subst hc1 hd1 hc2 hd2
  obtain ⟨hp, g, d, tk, os⟩ := s
  have f3 := AutoSeq1.sub_list_list
  have hne : (items.size != items2.size) = true := by simp [hs]
  wp_walk using wpAny_loadPart' hl1, wpAny_loadPart' hb1
  exact hR
end
section
variable {prog : Program} {w : World} {A : Around} {E : Value → Shared → Prop} {s : Shared}
theorem rc_listJ {ne : Bool} {l b : Addr} {N : Nat} {Q : Value → Shared → Prop} (hu : A.units < cLine) (I F : Nat → Shared → Prop) (hl : ListJ prog w A E l b N I F)
    (fin : ∀ s, I N s → Q (.bool (!ne)) s) (hF : ∀ i s, F i s → twoL l b N s ∧ Q (.bool ne) s) (h : I 0 s) : wpAny (model prog w) A (richCompare (if ne then .NotEq else .Eq) (.ref l) (.ref b)) Q E s := by
  obtain ⟨items, items2, ⟨o1, ho1, hc1, _⟩, ⟨o2, ho2, hc2, _⟩, _, _, _⟩ := hl _ _ h
  cases ne with
  | false =>
    refine wpAny_richCompare_same_room (op := .Eq) ⟨_, ho1, hc1⟩ ⟨_, ho2, hc2⟩ PySem.F.slot_list_eq (GQ.call_here PySem.F.slot_list_eq ⟨_, ho1, hc1⟩ PySem.F.entry_list_eq (PySem.F.args_list_eq_2 _ _) ?_) hu
    exact list_eqJ (R := wants (fun v s' => v ≠ .notImplemented ∧ Q v s') E) l b N I F hl (fun s' q => ⟨(fun x => nomatch x), fin s' q⟩) (fun i s' q => ⟨(hF i s' q).1, (fun x => nomatch x), (hF i s' q).2⟩) h
  | true =>
    refine wpAny_richCompare_same_room (op := .NotEq) ⟨_, ho1, hc1⟩ ⟨_, ho2, hc2⟩ PySem.F.slot_list_ne (GQ.call_here PySem.F.slot_list_ne ⟨_, ho1, hc1⟩ PySem.F.entry_list_ne (PySem.F.args_list_ne_2 _ _) ?_) hu
    exact list_neJ (R := wants (fun v s' => v ≠ .notImplemented ∧ Q v s') E) l b N I F hl (fun s' q => ⟨(fun x => nomatch x), fin s' q⟩) (fun i s' q => ⟨(hF i s' q).1, (fun x => nomatch x), (hF i s' q).2⟩) h
theorem rc_listU {ne : Bool} {l b : Addr} {items items2 : Array Value} {Q : Value → Shared → Prop} (hu : A.units < cLine) (hl : s.heap.IsList l items) (hb : s.heap.IsList b items2) (hs : items.size ≠ items2.size) (hQ : Q (.bool ne) s) :
    wpAny (model prog w) A (richCompare (if ne then .NotEq else .Eq) (.ref l) (.ref b)) Q E s := by
  obtain ⟨o1, ho1, hc1, _⟩ := id hl
  obtain ⟨o2, ho2, hc2, _⟩ := id hb
  cases ne with
  | false =>
    refine wpAny_richCompare_same_room (op := .Eq) ⟨_, ho1, hc1⟩ ⟨_, ho2, hc2⟩ PySem.F.slot_list_eq (GQ.call_here PySem.F.slot_list_eq ⟨_, ho1, hc1⟩ PySem.F.entry_list_eq (PySem.F.args_list_eq_2 _ _) ?_) hu
    exact list_eqU (R := wants (fun v s' => v ≠ .notImplemented ∧ Q v s') E) l b hl hb hs ⟨(fun x => nomatch x), hQ⟩
  | true =>
    refine wpAny_richCompare_same_room (op := .NotEq) ⟨_, ho1, hc1⟩ ⟨_, ho2, hc2⟩ PySem.F.slot_list_ne (GQ.call_here PySem.F.slot_list_ne ⟨_, ho1, hc1⟩ PySem.F.entry_list_ne (PySem.F.args_list_ne_2 _ _) ?_) hu
    exact list_neU (R := wants (fun v s' => v ≠ .notImplemented ∧ Q v s') E) l b hl hb hs ⟨(fun x => nomatch x), hQ⟩
end
/-- what a list's == answers, item by item -/
def eqVL {α : Type} (me : α → α → Res Bool) (xs ys : List α) : Res Bool := if xs.length = ys.length then eqV me xs ys else .ok false
/-- items of a kind with an own ==, as they are compared inside a builtin -/
structure OwnEq (X : Cx) (α : Type) (f : α → Dat) (me : α → α → Res Bool) : Prop where
  el : ∀ x y, EqO X.prog X.w X.K X.mg X.base X.A.in1 (f x) (f y) (me x y)
  isR : ∀ x, isR (f x) = true
  inj : ∀ (G : Hp) x y a, Den X.K G (f x) (.ref a) → Den X.K G (f y) (.ref a) → x = y
  self : ∀ x, me x x = .ok true
section
variable {X : Cx} {T : Bool} {M : Mem} {P : PK'} {α : Type} {f : α → Dat} {me : α → α → Res Bool} {Q1 : Bool → Prop} {E1 : Er → Prop}
/-- one item's == inside a builtin -/
theorem eqItem (O : OwnEq X α f me) {pins : List (Addr × Obj)} {σ : L2.St} {G' : Hp} {H' : Hp} {s' : Shared} {x y : α} {v1 v2 : V} {u1 u2 : Value} (I' : Inv X pins σ H' s') (hst : Hst X.K G' M H') (d1 : Den X.K G' (f x) v1) (d2 : Den X.K G' (f y) v2) (r1 : RelV v1 u1) (r2 : RelV v2 u2)
    {Qo : Bool → Prop} (hq : (me x y).Out Qo (fun _ => False)) {Qb : Bool → Shared → Prop} (hQb : ∀ t s2 H2 G2, Qo t → Inv X pins σ H2 s2 → Stp G' M H' G2 M H2 → Hst X.K G2 M H2 → Qb t s2) : wpAny (model X.prog X.w) X.A.in1 (eqBool u1 u2) Qb X.xe s' := by
  obtain ⟨a1, rfl⟩ := den_isR (O.isR _) d1
  obtain ⟨a2, rfl⟩ := den_isR (O.isR _) d2
  obtain rfl : u1 = Value.ref a1 := r1
  obtain rfl : u2 = Value.ref a2 := r2
  by_cases e : a1 = a2
  · subst e
    obtain rfl := O.inj _ _ _ _ d1 d2
    rw [O.self x] at hq
    exact EqAt.same (A := X.A.in1) (s := s') (.ref a1) X.prog X.w _ Qb (hQb true s' H' G' hq I' Stp.refl hst)
  · unfold eqBool
    refine wpAny_holding ?_
    refine wpAny_ite_split (fun hab => absurd (by have := eq_of_beq hab; injection this) e) (fun _ => ?_)
    obtain ⟨C, fa, fd, k, ps, S, t, FF, hrm, mt, _, _, hb, hx, ty, hn, hS⟩ := O.el x y
    obtain ⟨a', dxa, fs, ea', ea, _⟩ := (hx M).get hst d1
    cases ea'
    obtain ⟨mA, J, _⟩ := ins_get I'.hok ea
    obtain ⟨od, J, _⟩ := J.look
    obtain ⟨m, hF⟩ := I'.fr
    have ry : RelV (.ref a2) (Value.ref a2) := rfl
    obtain ⟨Pr, Z, pz, _⟩ := kit_of I' ry (tyD_ok (ty M) hst d2)
    refine wpAny_bind ?_
    have hsp : toSp X.K S [.ref a1, .ref a2] H' (fun z H2 => ∃ t, z = .bl t ∧ ∃ G2, Stp G' M H' G2 M H2 ∧ Hst X.K G2 M H2 ∧ Qo t) (fun _ _ _ => False) :=
      ap_toSp (ap_all (hS M (UpP fun d M2 => ∃ t, d = .bl t ∧ M2 = M ∧ Qo t) (UpP E0') (out_mono hq (fun t q => UpP.mk ⟨t, rfl, rfl, q⟩) fun _ z => z))) (.cons d1 (.cons d2 .nil)) hst
        (fun d M2 z G2 H2 ⟨t, ed, em, hp⟩ s2 h2 dz => by subst ed; subst em; exact ⟨t, dz.bl_inv, G2, s2, h2, hp⟩) noX
    refine PySem.W.cmp_K (op := .Eq) (tb := t) hrm.units0 hF I'.ok.mod.kin J (Z.ty _ _ I'.kIn pz) hn mt.1 mt.2 ?_
    refine wpAny_mono (run_dA (W := fun _ _ _ _ => False) (us := [.ref a1, .ref a2]) (vs := [.ref a1, .ref a2]) FF (hrm.mono (Nat.le_succ _)) I'.env0.in1 hb takes0 I' (.cons rfl (.cons rfl .nil)) hsp) (fun r s2 q => ?_) fun _ _ z => z
    obtain ⟨z, H2, I2, rz, t2, ez, G2, st2, hst2, q⟩ := q
    subst ez
    cases rz
    exact wpAny_truthy_bool (hQb t2 s2 H2 G2 q I2 st2 hst2)
theorem LsD.up {K : PySem.W.Frag} {G H G' H' : Hp} {M : Mem} {d : Dat} {xs : List Dat} {a : Addr} (h : LsD M d xs) (hH : Hst K G M H) (hH' : Hst K G' M H') (s : Stp G M H G' M H') (dv : Den K G d (.ref a)) : ∃ vs, H' a = some (.lst vs) ∧ DenL K G' xs vs := by
  obtain ⟨a', vs, e, g1, g2⟩ := h.get hH' (dv.up s.gg)
  cases e
  exact ⟨vs, g1, g2⟩
theorem o_cmpLO (ne : Bool) (O : OwnEq X α f me) {x y : Dat} {xs ys : List α} (lx : LsD M x (xs.map f)) (ly : LsD M y (ys.map f)) (hu : X.A.units + 64 < cLine) (h : (eqVL me xs ys).ne.Out Q1 E1) (hk : ∀ b, Q1 b → P (.bl (if ne then !b else b)) M) :
    OP X T (compareOp (if ne then .NotEq else .Eq)) x y M P := by
  intro G H v u hH dx dy Q hQ pins s σ v' u' _ I r r'
  obtain ⟨a, vs, rfl, ga, da⟩ := lx.get hH dx
  obtain ⟨b, us, rfl, gb, db⟩ := ly.get hH dy
  cases r; cases r'
  obtain ⟨ws, r1, p1, _⟩ := I.list (SqL.of ga)
  obtain ⟨zs, r2, p2, _⟩ := I.list (SqL.of gb)
  have hw : ws.length = xs.length := by rw [← r1.length, da.length, List.length_map]
  have hz : zs.length = ys.length := by rw [← r2.length, db.length, List.length_map]
  have h : (eqVL me xs ys).Out Q1 (fun _ => False) := ne_out h
  unfold eqVL at h
  have e2 : compareOp (if ne then .NotEq else .Eq) (Value.ref a) (.ref b) = richCompare (if ne then .NotEq else .Eq) (Value.ref a) (.ref b) := by cases ne <;> rfl
  rw [e2]
  by_cases hlen : xs.length = ys.length
  · rw [if_pos hlen] at h
    refine rc_listJ (N := xs.length) (by omega) (fun j s' => j ≤ xs.length ∧ ∃ H' G', Inv X pins σ H' s' ∧ Stp G M H G' M H' ∧ Hst X.K G' M H' ∧ (eqV me (xs.drop j) (ys.drop j)).Out Q1 (fun _ => False))
      (fun j s' => ∃ H' G', Inv X pins σ H' s' ∧ Stp G M H G' M H' ∧ Hst X.K G' M H' ∧ Q1 false) ?_ ?_ ?_ ⟨Nat.zero_le _, H, G, I, Stp.refl, hH, h⟩
    · rintro j s' ⟨hj, H', G', I', st, hst, hq⟩
      obtain ⟨vs', ga', da'⟩ := lx.up hH hst st dx
      obtain ⟨us', gb', db'⟩ := ly.up hH hst st dy
      obtain ⟨ws', r1', p1', _⟩ := I'.list (SqL.of ga')
      obtain ⟨zs', r2', p2', _⟩ := I'.list (SqL.of gb')
      have hw' : ws'.length = xs.length := by rw [← r1'.length, da'.length, List.length_map]
      have hz' : zs'.length = xs.length := by rw [← r2'.length, db'.length, List.length_map, hlen]
      refine ⟨_, _, p1'.isList, p2'.isList, by simpa using hw', by simpa using hz', fun h1 h2 Qb hQb => ?_⟩
      have j1 : j < xs.length := by rw [← hw']; simpa using h1
      have j2 : j < ys.length := by omega
      rw [List.drop_eq_getElem_cons j1, List.drop_eq_getElem_cons j2] at hq
      obtain ⟨v1, e1, d1⟩ := da'.get (show (xs.map f)[j]? = some (f xs[j]) by rw [List.getElem?_map, List.getElem?_eq_getElem j1]; rfl)
      obtain ⟨v2, e2, d2⟩ := db'.get (show (ys.map f)[j]? = some (f ys[j]) by rw [List.getElem?_map, List.getElem?_eq_getElem j2]; rfl)
      obtain ⟨u1, f1, q1⟩ := r1'.get e1
      obtain ⟨u2, f2, q2⟩ := r2'.get e2
      have w1 : ws'.toArray[j] = u1 := by
        rw [List.getElem?_eq_getElem (by rw [hw']; exact j1)] at f1
        simpa using f1
      have w2 : zs'.toArray[j] = u2 := by
        rw [List.getElem?_eq_getElem (by rw [hz']; exact j1)] at f2
        simpa using f2
      rw [w1, w2]
      refine eqItem O I' hst d1 d2 q1 q2 (ob hq) fun t s2 H2 G2 q I2 st2 hst2 => hQb t s2 (fun e => ?_) (fun e => ?_)
      · subst e; exact ⟨j1, H2, G2, I2, st.trans st2, hst2, q⟩
      · subst e; exact ⟨H2, G2, I2, st.trans st2, hst2, q⟩
    · rintro s' ⟨hj, H', G', I', st, hst, hq⟩
      rw [List.drop_length, hlen, List.drop_length] at hq
      have hq : Q1 true := hq
      refine ⟨.bl (!ne), H', I', rfl, hQ _ _ _ _ _ ?_ st hst den_bl⟩
      have := hk _ hq
      cases ne <;> exact this
    · rintro j s' ⟨H', G', I', st, hst, hq⟩
      obtain ⟨vs', ga', da'⟩ := lx.up hH hst st dx
      obtain ⟨us', gb', db'⟩ := ly.up hH hst st dy
      obtain ⟨ws', r1', p1', _⟩ := I'.list (SqL.of ga')
      obtain ⟨zs', r2', p2', _⟩ := I'.list (SqL.of gb')
      have hw' : ws'.length = xs.length := by rw [← r1'.length, da'.length, List.length_map]
      have hz' : zs'.length = xs.length := by rw [← r2'.length, db'.length, List.length_map, hlen]
      refine ⟨⟨_, _, p1'.isList, p2'.isList, by simpa using hw', by simpa using hz'⟩, .bl ne, H', I', rfl, hQ _ _ _ _ _ ?_ st hst den_bl⟩
      have := hk _ hq
      cases ne <;> exact this
  · rw [if_neg hlen] at h
    refine rc_listU (by omega) p1.isList p2.isList (by simpa [hw, hz] using hlen) ⟨.bl ne, H, I, rfl, hQ _ _ _ _ _ ?_ Stp.refl hH den_bl⟩
    have := hk _ h
    cases ne <;> exact this
theorem r_eqLO (O : OwnEq X α f me) {x y : Dat} {xs ys : List α} (hu : X.A.units + 64 < cLine) (lx : LsD M x (xs.map f)) (ly : LsD M y (ys.map f)) (h : (eqVL me xs ys).ne.Out Q1 E1) (hk : ∀ b, Q1 b → P (.bl b) M) : OP X T (compareOp .Eq) x y M P := o_cmpLO false O lx ly hu h hk
theorem r_neLO (O : OwnEq X α f me) {x y : Dat} {xs ys : List α} (hu : X.A.units + 64 < cLine) (lx : LsD M x (xs.map f)) (ly : LsD M y (ys.map f)) (h : (eqVL me xs ys).ne.Out Q1 E1) (hk : ∀ b, Q1 b → P (.bl (!b)) M) : OP X T (compareOp .NotEq) x y M P := o_cmpLO true O lx ly hu h hk
end
end Kh

set_option Elab.async false
set_option linter.all false
set_option maxRecDepth 100000
set_option maxHeartbeats 1000000
namespace PySem.W
open Lean Elab Tactic Meta PySem PySem.Calls PyProof.Rows
/-! ### own operators with a right side of any other type -/
/-- a class without number slots of this name, along its order -/
def noNum (K : Frag) (C : Addr) (nm : String) : Bool := (clsIn K C).any fun cd => cd.mro.all fun c => findIn K c (PySem.dunder nm) == some none && findIn K c (dunderR nm) == some none
section
variable {prog : Program} {w : World} {M : Model} {A : Around} {E : Value → Shared → Prop} {s : Shared} {K : Frag} {x C L f : Addr} {h₀ : Heap} {m : Str → Option Value} {ox : Obj} {od : Option Obj} {nm T : String}
theorem anyM_false {α : Type} {p : α → Sem Bool} {h : Heap} : ∀ {l : List α}, (∀ c ∈ l, Looks M h (p c) false) → Looks M h (l.anyM p) false
  | [], _ => by
    intro A Q E s k q
    exact wpAny_pure q
  | c :: l, H => by
    intro A Q E s k q
    rw [List.anyM_cons]
    refine wpAny_bind (H c List.mem_cons_self A _ E s k ?_)
    simp only [Bool.false_eq_true, if_false]
    exact anyM_false (fun d hd => H d (List.mem_cons_of_mem _ hd)) A _ E s k q
theorem fills_none {h : Heap} (X : K.In h) (hn : noNum K C nm = true) : Looks M h (fillsNumberSlot (.ref C) nm) false := by
  unfold noNum at hn
  obtain ⟨cd, hcd, hm⟩ : ∃ cd, clsIn K C = some cd ∧ (cd.mro.all fun c => findIn K c (PySem.dunder nm) == some none && findIn K c (dunderR nm) == some none) = true := by
    cases q : clsIn K C with
    | none => rw [q] at hn; cases hn
    | some cd => rw [q] at hn; exact ⟨cd, rfl, hn⟩
  have hall := List.all_eq_true.mp hm
  intro A Q E s k q
  unfold fillsNumberSlot
  refine wpAny_bind ((looks_clsIn X hcd).andThen (f := fun cd => pure cd.mro) .now A _ E s k ?_)
  refine anyM_false (h := h) (fun c hc => ?_) A _ E s k q
  have := hall c hc
  rw [Bool.and_eq_true] at this
  have f1 := beq_iff_eq.mp this.1
  have f2 := beq_iff_eq.mp this.2
  intro A Q E s k q
  have X' : K.In s.heap := X.keeps k
  obtain ⟨hh, g, d, tt, os⟩ := s
  have L1 : Looks M hh (typeLookup c (PySem.dunder nm)) none := looks_findIn X' f1
  have L2 : Looks M hh (typeLookup c (dunderR nm)) none := looks_findIn X' f2
  cases c with
  | type T =>
    repeat lk
    exact q
  | _ =>
    simp only [List.anyM_cons, List.anyM_nil]
    repeat lk
    exact q
theorem binop_R {op : Operator} {b tb : Value} {right : Bool} {Q : Value → Shared → Prop} (F : Fr h₀ L s.heap m) (X₀ : K.In h₀) (I : InstAt s.heap x ox C od) (hb : Looks (model prog w) s.heap (typeOf b) tb) (hne : (Value.ref C == tb) = false) (hc : selfFirst K C = true)
    (hs : findIn K (.ref C) (PySem.dunder op.info.2) = some (some (.ref f))) (hf : isFn K (.ref f) = true)
    (h4 : Looks (model prog w) s.heap (fillsNumberSlot tb op.info.2) right)
    (h5 : right = true → ∃ rc ro T, findIn K (.ref C) (dunderR op.info.2) = some rc ∧ (rc = none ∨ ∃ g : Addr, rc = some (.ref g)) ∧ tb = .type T ∧ subIn K tb (.ref C) = some false ∧ findIn K tb (dunderR op.info.2) = some ro)
    (h : wpAny (model prog w) A (call (.ref f) [.ref x, b]) (CmpBack Q) E s) : wpAny (model prog w) A (binaryOp op (.ref x) b) Q E s := by
  have X := X₀.keeps F.keep
  obtain ⟨cd, rest, hcd, hm⟩ := ksp_first hc
  rcases hi : op.info with ⟨sym, nm'⟩
  rw [hi] at hs h4 h5
  dsimp only at hs h4 h5
  have one := ksp_try X I hs hf h
  obtain ⟨hh, g, d, tt, os⟩ := s
  have L1 : Looks (model prog w) hh (typeOf (.ref x)) (.ref C) := I.type
  have L2 : Looks (model prog w) hh (typeOf b) tb := hb
  have L3 : Looks (model prog w) hh (fillsNumberSlot (.ref C) nm') true := fills_K X hcd hm hs
  have L4 : Looks (model prog w) hh (fillsNumberSlot tb nm') right := h4
  simp only [binaryOp, hi]
  refine wpAny_holding (wpAny_bind ?_)
  unfold binaryOp1
  refine wpAny_bind (L1.at (wpAny_bind (L2.at (wpAny_bind (L3.at ?_)))))
  simp only [hne, Bool.false_eq_true, if_false]
  cases right with
  | false =>
    ksp_lk
    refine wpAny_mono one (fun r s' hr' => ?_) fun _ _ e => e
    obtain ⟨v, rfl, hq⟩ := hr'
    ksp_lk
    exact hq
  | true =>
    obtain ⟨rc, ro, T, hr, hp, rfl, hsub, h2⟩ := h5 rfl
    have L5 : Looks (model prog w) hh (isSubtype (.type T) (.ref C)) false := looks_subIn X hsub
    have L6 : Looks (model prog w) hh (numberSlotInPython (.ref C) nm') true := ksp_inPy X hs hr hp
    have L7 : Looks (model prog w) hh (numberSlotInPython (.type T) nm') false := Looks.of_pure rfl
    have L8 : Looks (model prog w) hh (typeLookup (.type T) (dunderR nm')) ro := looks_findIn X h2
    ksp_lk
    refine wpAny_mono one (fun r s' hr' => ?_) fun _ _ e => e
    obtain ⟨v, rfl, hq⟩ := hr'
    ksp_lk
    exact hq
end
end PySem.W
namespace Kh
open PySem PySem.Spec L2
/-- what the operators of the class at C meet on their right side -/
structure RightA (K : PySem.W.Frag) (C fa : Addr) (op : Operator) (cl : OK → Addr × List Str) (pr : OK → Bool) : Prop where
  first : PySem.W.selfFirst K C = true
  fnd : PySem.W.findIn K (.ref C) (PySem.dunder op.info.2) = some (some (.ref fa))
  fn : PySem.W.isFn K (.ref fa) = true
  rr : PySem.W.findIn K (.ref C) (dunderR op.info.2) = some none
  base : ∀ T ∈ baseT, (∃ fo, PySem.W.findIn K (.type T) (PySem.dunder op.info.2) = some fo) ∧ (∃ ro, PySem.W.findIn K (.type T) (dunderR op.info.2) = some ro) ∧ PySem.W.subIn K (.type T) (.ref C) = some false
  own : ∀ k, pr k = true → ICls K (cl k).1 ∧ ((cl k).1 = C ∨ PySem.W.noNum K (cl k).1 op.info.2 = true)
/-- the type of a value of any kind is known -/
def kndA (pr : OK → Bool) (a : Any) : Bool := match tyA a with
  | some _ => true
  | none => match okA a with
    | some k => pr k
    | none => false
section
variable {X : Cx} {T : Bool} {τ : TEnv} {M : Mem} {P : PK'} {E : XKx} {a b e : Expr} {pos : Pos} {k : Nat} {fa C : Addr} {fd : FuncData} {ps : List Str} {S : Spc} {W : WX} {op : Operator} {cl : OK → Addr × List Str} {pr : OK → Bool}
/-- x op y, x an instance of the class at C, y of any kind; errors may come -/
theorem ex_binOwnA (F : FnD X.prog X.w X.K X.mg X.base k fa fd ps S) (hr : Room k X.A) (hb : Binds X.K fd ps []) (RA : RightA X.K C fa op cl pr)
    (h : EX X T a τ M (fun x M1 => EX X T b τ M1 (fun y M2 => ∃ v, y = anyD cl v ∧ kndA pr v = true ∧ IsI C "__eq__" M2 x ∧ S [x, y] M2 (UpP fun d M3 => isR d = true ∧ P d M3) (UpP E)) E) E) : EX X T (.BinOp a op b pos) τ M P E := by
  refine .mk ?_; intro W tk σ G H hE hH Q hP hX pins s k0 I
  have hA := h.run W tk σ G H hE hH (fun x H1 => tW X T b σ H1 fun y H2 => ∃ c dx fs, x = .ref c ∧ H2 c = some (.ins C dx fs) ∧ (∃ t, TyX X.K H2 y t ∧ ((∃ u ∈ baseT, t = .type u) ∨ t = .ref C ∨ ∃ D, t = .ref D ∧ D ≠ C ∧ PySem.W.noNum X.K D op.info.2 = true)) ∧
      toSp X.K S [x, y] H2 (fun z H3 => (∃ c, z = .ref c) ∧ Q z H3) (fun c d H3 => W c d σ H3))
    (fun x M1 v G1 H1 hb s1 h1 dx => hb.run W tk σ G1 H1 (hE.up s1.gg) h1 _ (fun y M2 u G2 H2 ⟨v, ey, hk, hi, hS⟩ s2 h2 dy => by
      obtain ⟨c, dxa, fs, e1, e2, _⟩ := hi.get h2 (dx.up s2.gg)
      refine ⟨c, dxa, fs, e1, e2, ?_, ap_toSp (ap_all hS) (.cons (dx.up s2.gg) (.cons dy .nil)) h2 (fun d M3 z G3 H3 ⟨hd, hp⟩ s3 h3 dz => ⟨den_isR hd dz, hP _ _ _ _ _ hp ((s1.trans s2).trans s3) h3 dz⟩) (hX.step (s1.trans s2))⟩
      subst ey
      unfold kndA at hk
      cases e3 : tyA v with
      | some t => exact ⟨_, tyD_ok (tyA_D e3) h2 dy, .inl ⟨t, tyA_mem e3, rfl⟩⟩
      | none =>
        rw [e3] at hk
        cases e4 : okA v with
        | none => rw [e4] at hk; cases hk
        | some q =>
          rw [e4] at hk
          obtain ⟨ic, hc⟩ := RA.own q hk
          refine ⟨_, tyD_ok (okA_D' ic e4) h2 dy, .inr ?_⟩
          by_cases ec : (cl q).1 = C
          · exact .inl (by rw [ec])
          · exact .inr ⟨_, rfl, ec, hc.resolve_left ec⟩) (hX.step s1)) hX
  refine wpAny_BinOp (thnT k0 (hA pins s k0 I) fun v s1 k1 ⟨x, H1, I1, r1, q1⟩ => thn (q1 pins s1 k1 I1) fun u s2 ⟨y, H2, I2, r2, c, dx, fs, ex, ea, ⟨t, tx, ht⟩, q2⟩ => ?_)
  subst ex
  obtain rfl : v = Value.ref c := r1
  obtain ⟨mA, J, _⟩ := ins_get I2.hok ea
  obtain ⟨od, J, _⟩ := J.look
  obtain ⟨m, hF⟩ := I2.fr
  obtain ⟨Pr, Z, pz, _⟩ := kit_of I2 r2 tx
  have hbk := Z.ty (model X.prog X.w) _ I2.kIn pz
  have hrun : wpAny (model X.prog X.w) X.A (call (.ref fa) [.ref c, u]) (PySem.W.CmpBack (EP X pins σ Q)) X.xe s2 :=
    wpAny_mono (run_d (dsv := []) (dvs := []) (us := [.ref c, u]) (vs := [.ref c, y]) F hr hb .nil tk I2 (.cons rfl (.cons r2 .nil)) (by rw [List.append_nil]; exact q2)) (fun r s' q => by
      obtain ⟨z, H', I', rz, ⟨d, rfl⟩, q⟩ := q
      obtain rfl : r = Value.ref d := rz
      exact ⟨.ref d, H', I', rfl, q⟩) fun _ _ z => z
  rcases ht with ⟨u', hu', rfl⟩ | rfl | ⟨D, rfl, hD, hn⟩
  · obtain ⟨⟨fo, h1⟩, ⟨ro, h2⟩, h3⟩ := RA.base u' hu'
    exact PySem.W.binop_R hF I2.ok.mod.kin J hbk (Bool.eq_false_iff.mpr fun q => by cases beq_iff_eq.mp q) RA.first RA.fnd RA.fn (PySem.W.ksp_fillsT I2.kIn h1 h2) (fun _ => ⟨none, ro, u', RA.rr, .inl rfl, rfl, h3, h2⟩) hrun
  · exact PySem.W.binop_K hF I2.ok.mod.kin J hbk RA.first RA.fnd RA.fn hrun
  · exact PySem.W.binop_R (right := false) hF I2.ok.mod.kin J hbk (Bool.eq_false_iff.mpr fun q => hD (by have := beq_iff_eq.mp q; injection this with e; exact e.symm)) RA.first RA.fnd RA.fn (PySem.W.fills_none I2.kIn hn) (fun z => nomatch z) hrun
end
end Kh

set_option Elab.async false
set_option linter.all false
set_option maxRecDepth 100000
set_option maxHeartbeats 1000000
namespace Kh
open PySem PySem.Spec L2
/-! ### a comprehension's list as a cell -/
section
variable {X : Cx} {T : Bool} {tg iter elt e a b c : Expr} {τ : TEnv} {M : Mem} {E : XKx} {pos p : Pos} {vs : List Nat} {P : PK'}
theorem lc_readC {scope : Scope} (hi : EI X tg iter τ M (fun ds M1 Ok => ds.length ≤ sizeLine ∧ ∃ I : Nat → List Dat → Mem → Prop, I 0 [] M1 ∧ (∀ i acc M, I i acc M → Ok M) ∧
      (∀ i d acc M, ds[i]? = some d → I i acc M → ∀ (s : Shared) (H : Hp) (C : Addr) (cl : List (Str × Addr)) (fp : List Addr), GC (Cx.Bk X scope s H C cl fp) vs tg d (wipeT τ vs) M (fun τ2 M2 => ∀ (s : Shared) (H : Hp) (C : Addr) (cl : List (Str × Addr)) (fp : List Addr),
        EFs (Cx.Bk X scope s H C cl fp) ifs τ2 M2 (fun b M3 => (b = true → ∀ (s : Shared) (H : Hp) (C : Addr) (cl : List (Str × Addr)) (fp : List Addr), EX (Cx.Bk X scope s H C cl fp) false elt τ2 M3 (fun y M4 => I (i + 1) (acc ++ [y]) M4) E0') ∧ (b = false → I (i + 1) acc M3)))) ∧
      (∀ acc M, I ds.length acc M → ∀ q, P (.raw (.ref q)) ((q, .lst acc) :: M))) E)
    {W : WX} (tk : Takes X W) {σ : L2.St} {G H : Hp} (hE : DenE X.K τ G σ) (hH : Hst X.K G M H) {Q : VK} (hP : CE' X.K G M H P Q) (hX : CX' X.K G M H E (fun c d H2 => W c d σ H2)) :
    tLc (tWI X false tg iter) (gFam X scope tg) (iFam X scope ifs) (eFam X scope elt) vs σ H Q := by
  refine hi.run W tk σ G H hE hH _ ?_ hX
  intro J ds M1 G1 H1 Ok ⟨hz, I, h0, hOk, hb, hd⟩ s1 h1 w D hD
  have hDH : ∀ b o, b ∉ adr M → H b = some o → b ≠ D := fun b o n e z => by rw [← z, s1.hh b o n e] at hD; cases hD
  -- the new list at D, beside
  have gD : ∀ {G' H' : Hp} {M' : Mem}, Hst X.K G' M' H' → H' D ≠ none → True := fun _ _ => trivial
  let Pv : Nat → Hp → Prop := fun i H' => ∃ acc aV M' G', I i acc M' ∧ acc.length ≤ i ∧ Hst X.K G' M' H' ∧ Stp G M H G' M' H' ∧ Same G1 G' ∧ H' D = some (.lst aV) ∧ DenL X.K G' acc aV ∧ G' D = none ∧ D ∉ adr M'
  have laid : ∀ {G' H' : Hp} {M' : Mem} {xs : List V}, Hst X.K G' M' H' → G' D = none → D ∉ adr M' → Hst X.K G' M' (upd H' D (.lst xs)) := fun {G' H' M' xs} h g n =>
    ⟨fun b o e => by rw [upd_ne (fun z => by rw [z, g] at e; cases e)]; exact h.sub b o e, fun c hc => (h.mem c hc).up (Same.refl _) fun b hb o e => by rw [upd_ne (fun z => n (by rw [← z]; exact List.mem_flatMap.mpr ⟨c, hc, hb⟩))]; exact e, h.out, h.nd⟩
  have stp : ∀ {G' H' : Hp} {M' : Mem} {xs : List V}, Stp G M H G' M' H' → Stp G M H G' M' (upd H' D (.lst xs)) := fun {G' H' M' xs} s =>
    ⟨s.gg, fun b o n e => by rw [upd_ne (hDH b o n e)]; exact s.hh b o n e, s.fr, s.ad⟩
  have n0 : D ∉ adr M1 := fun z => h1.there D z hD
  have g0 : G1 D = none := h1.sub.free hD
  refine ⟨fun i m H' => m = ds.length - i ∧ i ≤ ds.length ∧ Pv i H', ⟨_, rfl, Nat.zero_le _, [], [], M1, G1, h0, Nat.zero_le _, laid h1 g0 n0, stp s1, Same.refl _, upd_same, .nil, g0, n0⟩, ?_⟩
  rintro i m H' ⟨rfl, hle, acc, aV, M', G', hI, hal, h', s', g', hDl, hda, hg', hn'⟩
  obtain ⟨w1, w2, w3⟩ := w G' M' H' g' h' (hOk _ _ _ hI)
  -- D through a step
  have thru : ∀ {G2 H2 : Hp} {M2 : Mem}, Stp G' M' H' G2 M2 H2 → H2 D = some (.lst aV) ∧ DenL X.K G2 acc aV ∧ G2 D = none ∧ D ∉ adr M2 := fun {G2 H2 M2} s =>
    ⟨s.hh D _ hn' hDl, hda.up s.gg, s.fr D (by rw [hDl]; exact fun z => nomatch z) hn' hg', fun z => (s.ad D z).elim hn' fun q => by rw [hDl] at q; cases q⟩
  by_cases hlt : i < ds.length
  · refine .inr ⟨w1 i hlt, fun H2 => Pv (i + 1) H2, fun H2 q => ⟨ds.length - (i + 1), by omega, rfl, hlt, q⟩, fun x H2 y => ?_⟩
    obtain ⟨G2, s2, h2, dx⟩ := w3 i x H2 hlt y
    have hd' := List.getElem?_eq_getElem hlt
    have eW : DenE X.K (wipeT τ vs) G2 (wipe σ vs) := denE_wipe ((hE.up s'.gg).up s2.gg) vs
    intro sA HA CA clA fpA
    refine hb i _ acc M' hd' hI sA HA CA clA fpA (wipe σ vs) G2 H2 x eW h2 (dx _ hd') _ ?_
    intro τ3 M3 G3 H3 σ3 p3 s3 h3 e3 l3 k3
    refine ⟨?_, fun sB HB CB clB fpB => ?_⟩
    · rw [wipe_ext l3 k3, wipe_wipe]
    refine p3 sB HB CB clB fpB σ3 G3 H3 e3 h3 _ ?_
    intro bb M4 G4 H4 ⟨p4, p4'⟩ s4 h4
    have s24 := (s2.trans s3).trans s4
    cases bb with
    | false =>
      refine iteF ?_
      obtain ⟨t1, t2, t3, t4⟩ := thru s24
      exact ⟨acc, aV, M4, G4, p4' rfl, by omega, h4, s'.trans s24, g'.trans s24.gg, t1, t2, t3, t4⟩
    | true =>
      refine iteT fun sC HC CC clC fpC => ?_
      refine (p4 rfl sC HC CC clC fpC).run _ takes0 σ3 G4 H4 (e3.up s4.gg) h4 _ ?_ noX
      intro y5 M5 v5 G5 H5 p5 s5 h5 d5
      have s25 := s24.trans s5
      obtain ⟨t1, t2, t3, t4⟩ := thru s25
      refine ⟨aV, t1, by rw [hda.length]; omega, acc ++ [y5], aV ++ [v5], M5, G5, p5, by rw [List.length_append]; simp; omega, laid h5 t3 t4, stp (s'.trans s25), g'.trans s25.gg, upd_same, t2.snoc d5, t3, t4⟩
  · have e : i = ds.length := by omega
    subst e
    refine .inl ⟨w2, ?_⟩
    have hC : Hst X.K G' ((D, .lst acc) :: M') H' := ⟨h'.sub, fun c hc => by
      rcases List.mem_cons.mp hc with rfl | hc
      · exact ⟨aV, hDl, hda⟩
      · exact h'.mem c hc, fun b hb => by
      rcases List.mem_cons.mp (show b ∈ D :: adr M' from hb) with rfl | hb
      · exact hg'
      · exact h'.out b hb, List.nodup_cons.mpr ⟨hn', h'.nd⟩⟩
    have sC : Stp G M H G' ((D, .lst acc) :: M') H' := ⟨s'.gg, s'.hh, s'.fr, fun b hb => by
      rcases List.mem_cons.mp (show b ∈ D :: adr M' from hb) with rfl | hb
      · by_cases c : b ∈ adr M
        · exact .inl c
        · refine .inr ?_
          cases q : H b with
          | none => rfl
          | some o => exact (hDH b o c q rfl).elim
      · exact s'.ad b hb⟩
    exact hP _ _ _ _ _ (hd acc M' hI D) sC hC den_raw
theorem ws_setLcC0 {x : Str} {px : Pos} {scope : Scope} {ifs : List Expr} {lpos : Pos} {rest : List Stmt} {R : RK} (own : List (Str × Nat)) (h : EI X tg iter τ M (fun ds M1 Ok => ds.length ≤ sizeLine ∧ ∃ I : Nat → List Dat → Mem → Prop, I 0 [] M1 ∧ (∀ i acc M, I i acc M → Ok M) ∧
      (∀ i d acc M, ds[i]? = some d → I i acc M → ∀ (s : Shared) (H : Hp) (C : Addr) (cl : List (Str × Addr)) (fp : List Addr), GC (Cx.Bk X scope s H C cl fp) (own.map (·.2)) tg d (wipeT τ (own.map (·.2))) M (fun τ2 M2 => ∀ (s : Shared) (H : Hp) (C : Addr) (cl : List (Str × Addr)) (fp : List Addr),
        EFs (Cx.Bk X scope s H C cl fp) ifs τ2 M2 (fun b M3 => (b = true → ∀ (s : Shared) (H : Hp) (C : Addr) (cl : List (Str × Addr)) (fp : List Addr), EX (Cx.Bk X scope s H C cl fp) false elt τ2 M3 (fun y M4 => I (i + 1) (acc ++ [y]) M4) E0') ∧ (b = false → I (i + 1) acc M3)))) ∧
      (∀ acc M, I ds.length acc M → ∀ q, WS X T rest (τ.set (ixIn X.N x) (some (.raw (.ref q)))) ((q, .lst acc) :: M) R)) (fun x M1 => R (.ex x τ) M1))
    (hi : X.N[ixIn X.N x]? = some x := by rfl) (hyl : X.env.scope.names.lookup x = some .local := by rfl) (hsw : swapsWith (.ListComp elt [⟨tg, iter, ifs, 0⟩] scope lpos) (some (.Name x px)) pos.line X.env = pure true := by exact sw_true rfl rfl rfl (by first | decide +kernel | kernel_rfl))
    (ok : BlkOk X.N X.env.scope scope own := by exact blkOk_by (by first | decide +kernel | kernel_rfl)) (hN : X.N.Nodup := by first | decide +kernel | exact of_decide_eq_true (by kernel_rfl)) (hc : X.calm = true := by rfl) (hs : ∀ x, foldedSetIterable iter X.env x = pure x := by intro _; rfl) :
    WS X T (.Assign [.Name x px] (.ListComp elt [⟨tg, iter, ifs, 0⟩] scope lpos) pos :: rest) τ M R := .mk fun W tk σ G H hE hH D hR => tWSs_len fun hl => by
  refine ws_step (ps_setLc hc hN hi hyl hsw pi_W ok pg_fam pt_fam pe_fam hs) ?_
  have hlt : ixIn X.N x < σ.length := by rw [hl]; exact (List.getElem?_eq_some_iff.mp hi).1
  exact lc_readC (P := fun d M => ∃ q, d = .raw (.ref q) ∧ WS X T rest (τ.set (ixIn X.N x) (some (.raw (.ref q)))) M R) (.mk fun W' tk' σ' G' H' hE' hH' R' hR' hX' => h.run W' tk' σ' G' H' hE' hH' R' (fun J ds M1 G1 H1 Ok ⟨hz, I, i1, i2, i3, i4⟩ => hR' J ds M1 G1 H1 Ok ⟨hz, I, i1, i2, i3, fun acc M hi q => ⟨q, rfl, i4 acc M hi q⟩⟩) hX') tk hE hH
    (fun d M2 v G2 H2 ⟨q, ed, r⟩ s h2 dv => by subst ed; exact r.run W tk _ G2 H2 ((hE.up s.gg).set hlt dv) h2 D (hR.step s)) (ex_out hR hE)
end
/-- what a comprehension's list does as a cell -/
def cellP (P : PK') : PK' := fun d M => ∀ acc, d = .lst acc → ∀ q, P (.raw (.ref q)) ((q, .lst acc) :: M)
section
variable {X : Cx} {T : Bool} {tg iter elt : Expr} {τ : TEnv} {M : Mem} {pos : Pos} {P : PK'} {rest : List Stmt} {R : RK}
theorem ws_setLcC {x : Str} {px : Pos} {scope : Scope} {ifs : List Expr} {elt : Expr} {lpos : Pos} (own : List (Str × Nat)) (h : EI X tg iter τ M (fun ds M1 Ok => LcQ X scope (own.map (·.2)) tg ifs elt τ ds M1 Ok (cellP fun d M => WS X T rest (τ.set (ixIn X.N x) (some d)) M R)) (fun x M1 => R (.ex x τ) M1))
    (hi : X.N[ixIn X.N x]? = some x := by rfl) (hyl : X.env.scope.names.lookup x = some .local := by rfl) (hsw : swapsWith (.ListComp elt [⟨tg, iter, ifs, 0⟩] scope lpos) (some (.Name x px)) pos.line X.env = pure true := by exact sw_true rfl rfl rfl (by first | decide +kernel | kernel_rfl))
    (ok : BlkOk X.N X.env.scope scope own := by exact blkOk_by (by first | decide +kernel | kernel_rfl)) (hN : X.N.Nodup := by first | decide +kernel | exact of_decide_eq_true (by kernel_rfl)) (hc : X.calm = true := by rfl) (hs : ∀ x, foldedSetIterable iter X.env x = pure x := by intro _; rfl) :
    WS X T (.Assign [.Name x px] (.ListComp elt [⟨tg, iter, ifs, 0⟩] scope lpos) pos :: rest) τ M R :=
  ws_setLcC0 own (.mk fun W tk σ G H hE hH R' hR' hX' => h.run W tk σ G H hE hH R' (fun J ds M1 G1 H1 Ok ⟨hz, I, i1, i2, i3, i4⟩ => hR' J ds M1 G1 H1 Ok ⟨hz, I, i1, i2, i3, fun acc M hi q => i4 acc M hi acc rfl q⟩) hX') hi hyl hsw ok hN hc hs
end
/-! ### tuple(a list that is told as data or as a cell) -/
section
variable {X : Cx} {M : Mem} {P : PK'} {α : Type}
theorem c_tupLs {d : Dat} {ds : List Dat} (l : LsD M d ds) (h : P (.tup ds) M) : BC X (.type "tuple") [d] M P := bc_of call_tuple_of fun G H vs hH dv Q hP => by
  obtain ⟨v, rfl, dd⟩ := one_inv dv
  obtain ⟨p, us, rfl, g, dl⟩ := l.get hH dd
  refine ⟨p, us, rfl, .inl ⟨SqL.of g, fun r hr => ?_⟩⟩
  obtain ⟨s2, h2⟩ := Stp.new (o := .tup us) hH hr
  exact hP _ _ _ _ _ h s2 h2 (den_tup upd_same (dl.up s2.gg))
end
/-- iteration over a list told as data or as a cell -/
theorem ei_ls {X : Cx} {tg e : Expr} {τ : TEnv} {M : Mem} {E : XKx} {PI' : List Dat → Mem → (Mem → Prop) → Prop} (h : EX X false e τ M (fun d M1 => ∃ ds, LsD M1 d ds ∧ PI' ds M1 (fun M => LsD M d ds)) E) : EI X tg e τ M PI' E := by
  refine .mk fun W tk σ G H hE hH R hR hX => ?_
  refine tWI_of (pi_list pe_W) ?_
  refine h.run W tk σ G H hE hH _ ?_ hX
  intro d M1 v G1 H1 ⟨ds, l, hp⟩ s1 h1 dv
  rcases l with rfl | ⟨a, rfl, hm⟩
  · obtain ⟨a, vs, rfl, ga, da⟩ := dv.lst_inv
    exact ⟨a, rfl, ⟨vs, SqL.of (h1.sub _ _ ga)⟩, hR _ _ _ _ _ _ hp s1 h1 (fun G2 M2 H2 s h _ => walkD_list (SqL.of ga) da G2 M2 H2 s h trivial)⟩
  · obtain ⟨vs, g1, g2⟩ := h1.mem _ hm
    exact ⟨a, dv.raw_inv, ⟨vs, SqL.of g1⟩, hR _ _ _ _ _ _ hp s1 h1 (fun G2 M2 H2 s h q => walkD_cell (ds := ds) G2 M2 H2 s h (by
      rcases q with q | ⟨b, e, q⟩
      · cases q
      · cases e; exact q))⟩
end Kh

set_option Elab.async false
set_option linter.all false
set_option maxRecDepth 100000
set_option maxHeartbeats 1000000
namespace Kh
open PySem PySem.Spec L2
theorem cellT {α : Type} {f : α → Dat} {ys : List α} {P : PK'} {M : Mem} (h : ∀ q, P (.raw (.ref q)) ((q, .lst (ys.map f)) :: M)) : cellP P (lstD f ys) M := fun acc e q => by
  cases e; exact h q
/-! ### not None, as it stands -/
def isNoneD : Dat → Bool
  | .non => true
  | .raw (.ref _) => false
  | .raw _ => true
  | _ => false
theorem isNoneD_ne {K : PySem.W.Frag} {G : Hp} {d : Dat} {v : V} (h : isNoneD d = false) (dv : Den K G d v) : decide (v = V.non) = false := by
  by_cases e : ∃ u, d = .raw u
  · obtain ⟨u, rfl⟩ := e
    have := dv.raw_inv
    subst this
    cases v <;> first | rfl | cases h
  · rw [den_isN dv (fun u q => e ⟨u, q⟩)]
    cases d <;> first | rfl | cases h
section
variable {X : Cx} {T : Bool} {M : Mem} {P : PK'}
theorem o_isNA {x : Dat} (hn : isNoneD x = false) (h : P (.bl false) M) : OP X T (compareOp .Is) x .non M P := op_of op_isN fun G H v u hH dx dy Q hP => ⟨dy.non_inv, by rw [isNoneD_ne hn dx]; exact hP _ _ _ _ _ h Stp.refl hH den_bl⟩
end
theorem base_Add {K : PySem.W.Frag} {C : Addr} : ∀ T ∈ baseT, (∃ fo, PySem.W.findIn K (.type T) (PySem.dunder (Operator.info .Add).2) = some fo) ∧ (∃ ro, PySem.W.findIn K (.type T) (dunderR (Operator.info .Add).2) = some ro) ∧ PySem.W.subIn K (.type T) (.ref C) = some false := by
  rw [show PySem.dunder (Operator.info .Add).2 = ("__add__" : Str) from by decide +kernel, show dunderR (Operator.info .Add).2 = ("__radd__" : Str) from by decide +kernel]
  intro T hT
  simp only [baseT, List.mem_cons, List.not_mem_nil, or_false] at hT
  rcases hT with rfl | rfl | rfl | rfl | rfl | rfl | rfl <;> exact ⟨⟨_, rfl⟩, ⟨_, rfl⟩, rfl⟩
theorem base_Mult {K : PySem.W.Frag} {C : Addr} : ∀ T ∈ baseT, (∃ fo, PySem.W.findIn K (.type T) (PySem.dunder (Operator.info .Mult).2) = some fo) ∧ (∃ ro, PySem.W.findIn K (.type T) (dunderR (Operator.info .Mult).2) = some ro) ∧ PySem.W.subIn K (.type T) (.ref C) = some false := by
  rw [show PySem.dunder (Operator.info .Mult).2 = ("__mul__" : Str) from by decide +kernel, show dunderR (Operator.info .Mult).2 = ("__rmul__" : Str) from by decide +kernel]
  intro T hT
  simp only [baseT, List.mem_cons, List.not_mem_nil, or_false] at hT
  rcases hT with rfl | rfl | rfl | rfl | rfl | rfl | rfl <;> exact ⟨⟨_, rfl⟩, ⟨_, rfl⟩, rfl⟩
end Kh

set_option Elab.async false
set_option linter.all false
set_option maxRecDepth 100000
set_option maxHeartbeats 1000000
namespace Kh
open PySem PySem.Spec L2
open PySem.SeqAt (EqAt RcAt RcNeAt)
/-- a new list stands as a cell -/
theorem cell_new {K : PySem.W.Frag} {G H : Hp} {M : Mem} {p : Addr} {ds : List Dat} {vs : List V} (h1 : Hst K G M H) (hp' : H p = none) (dvs : DenL K G ds vs) : Stp G M H G ((p, .lst ds) :: M) (upd H p (.lst vs)) ∧ Hst K G ((p, .lst ds) :: M) (upd H p (.lst vs)) := by
  have nM : p ∉ adr M := fun z => h1.there p z hp'
  have ha : adr ((p, MC.lst ds) :: M) = p :: adr M := rfl
  have kp : ∀ b o, H b = some o → (upd H p (.lst vs)) b = some o := fun b o e => by rw [upd_ne (ne_of_none e hp')]; exact e
  refine ⟨⟨Same.refl _, fun b o _ e => kp b o e, fun _ _ _ g => g, fun b hb => ?_⟩, ⟨fun b o e => kp b o (h1.sub b o e), fun c hc => ?_, fun b hb => ?_, ?_⟩⟩
  · rw [ha] at hb
    rcases List.mem_cons.mp hb with rfl | hb
    · exact .inr hp'
    · exact .inl hb
  · rcases List.mem_cons.mp hc with rfl | hc
    · exact ⟨vs, upd_same, dvs⟩
    · exact (h1.mem c hc).up (Same.refl _) fun b hb o e => kp b o e
  · rw [ha] at hb
    rcases List.mem_cons.mp hb with rfl | hb
    · exact h1.sub.free hp'
    · exact h1.out b hb
  · rw [ha]
    exact List.nodup_cons.mpr ⟨nM, h1.nd⟩
section
variable {X : Cx} {T : Bool} {M : Mem} {P : PK'}
/-- list(a list), the new one as a cell -/
theorem c_listNew {d : Dat} {ds : List Dat} (l : LsD M d ds) (h : ∀ q, P (.raw (.ref q)) ((q, .lst ds) :: M)) : BC X (.type "list") [d] M P := bc_of call_list_of fun G H vs hH dv Q hP => by
  obtain ⟨v, rfl, dd⟩ := one_inv dv
  obtain ⟨p, us, rfl, g, dl⟩ := l.get hH dd
  refine ⟨p, us, rfl, .inl (SqL.of g), fun r hr => ?_⟩
  obtain ⟨s2, h2⟩ := cell_new hH hr dl
  exact hP _ _ _ _ _ (h r) s2 h2 den_raw
/-- [a list that is a cell] against [a list], equal by their items -/
theorem o_neCel {q : Addr} {xs ys : List Dat} (hm : (q, MC.lst xs) ∈ M) (h : eqTL xs ys = true) (hd : dpDL xs ≤ 58) (hu : X.A.units + 64 < cLine) (hP : P (.bl false) M) : OP X T (compareOp .NotEq) (.lst [.raw (.ref q)]) (.lst [.lst ys]) M P := by
  intro G H v u hH dx dy Q hQ pins s σ v' u' _ I r r'
  obtain ⟨a, vs, rfl, ga, da⟩ := dx.lst_inv
  obtain ⟨b, us, rfl, gb, db⟩ := dy.lst_inv
  obtain ⟨v1, rfl, d1⟩ := one_inv da
  obtain ⟨v2, rfl, d2⟩ := one_inv db
  obtain rfl := d1.raw_inv
  obtain ⟨b2, us2, rfl, gb2, db2⟩ := d2.lst_inv
  obtain ⟨vs2, gq, dq⟩ := hH.mem _ hm
  cases r; cases r'
  obtain ⟨ws, r1, p1, _⟩ := I.list (SqL.of (hH.sub _ _ ga))
  obtain ⟨zs, r2, p2, _⟩ := I.list (SqL.of (hH.sub _ _ gb))
  cases r1 with | cons ra rb => ?_
  cases rb
  cases r2 with | cons rc rd => ?_
  cases rd
  cases ra; cases rc
  obtain ⟨ws2, r3, p3, _⟩ := I.list (SqL.of gq)
  obtain ⟨zs2, r4, p4, _⟩ := I.list (SqL.of (hH.sub _ _ gb2))
  have hz : ws2.toArray.size = zs2.toArray.size := by rw [List.size_toArray, List.size_toArray, ← r3.length, ← r4.length, dq.length, db2.length, eqTL_len h]
  have inner : EqAt X.A.in1 s (.ref q) (.ref b2) true := by
    by_cases e : q = b2
    · subst e; exact EqAt.same _
    · refine EqAt.of_refs e ?_
      have := RcAt.lists (A := X.A.in1) (e := fun _ => true) p3.isList p4.isList hz (by show X.A.units + 1 < cLine; omega) (fun j h1 h2 => by
        have := eqTL_run I hH.sub xs ys X.A.in1.in1 vs2 us2 ws2 zs2 h (by show X.A.units + 1 + 1 + dpDL xs < cLine; omega) dq db2 r3 r4 j (by simpa using h1) (by simpa using h2)
        simpa using this)
      rw [all_true] at this
      exact this
  have := RcNeAt.lists (A := X.A) (e := fun _ => true) p1.isList p2.isList rfl (by omega) (fun j h1 h2 => by
    have : j = 0 := by have : j < 1 := h1; omega
    subst this
    exact inner)
  rw [all_true] at this
  exact this _ _ _ _ ⟨.bl false, H, I, rfl, hQ _ _ _ _ _ hP Stp.refl hH den_bl⟩
end
theorem grab_bind {α β : Type} {f : α → Res β} {k : Er → Res β} {Q : α → Prop} {P : β → Prop} {E : Er → Prop} (hf : ∀ b, Q b → ((f b).grab k).Out P E) : ∀ {m : Res α}, m.Out Q (fun _ => False) → ((m.bind f).grab k).Out P E
  | .ok b, h => hf b h
  | .err _, h => h.elim
  | .bad, h => h.elim
  | .all g, h => fun q => grab_bind (m := g q) hf (h q)
theorem res_assoc {α β γ : Type} {f : α → Res β} {g : β → Res γ} : ∀ {m : Res α}, (m.bind f).bind g = m.bind fun a => (f a).bind g
  | .ok _ => rfl
  | .err _ => rfl
  | .bad => rfl
  | .all k => congrArg Res.all (funext fun q => res_assoc (m := k q))
end Kh

set_option Elab.async false
set_option linter.all false
set_option maxRecDepth 100000
set_option maxHeartbeats 1000000
namespace Kh
open PySem PySem.Spec L2
/-! ### [y for x in e for y in x] as a value -/
def FlatQ (X : Cx) (scope : Scope) (vs vs1 : List Nat) (tg tg1 iter1 elt : Expr) (τ : TEnv) (P : PK') : List Dat → Mem → (Mem → Prop) → Prop := fun ds M1 Ok => ∃ xss : List (List Dat), ds = xss.map Dat.lst ∧ xss.flatten.length ≤ sizeLine ∧ Ok M1 ∧ P (.lst xss.flatten) M1 ∧
      ∀ (ds : List Dat) (s : Shared) (H : Hp) (C : Addr) (cl : List (Str × Addr)) (fp : List Addr), GC (Cx.Bk X scope s H C cl fp) vs tg (.lst ds) (wipeT τ vs) M1 (fun τ2 M2 => M2 = M1 ∧
        (∀ (s : Shared) (H : Hp) (C : Addr) (cl : List (Str × Addr)) (fp : List Addr), EI (Cx.Bk X scope s H C cl fp) tg1 iter1 τ2 M1 (fun ds' M3 Ok => ds' = ds ∧ M3 = M1 ∧ Ok M1) E0') ∧
        ∀ (d : Dat) (s : Shared) (H : Hp) (C : Addr) (cl : List (Str × Addr)) (fp : List Addr), GC (Cx.Bk X scope s H C cl fp) vs1 tg1 d (wipeT τ2 vs1) M1 (fun τ3 M4 => M4 = M1 ∧
          ∀ (s : Shared) (H : Hp) (C : Addr) (cl : List (Str × Addr)) (fp : List Addr), EX (Cx.Bk X scope s H C cl fp) false elt τ3 M1 (fun y M5 => y = d ∧ M5 = M1) E0'))
def pflat {α : Type} (xss : List (List α)) : Res (List α) := guard (xss.flatten.length ≤ sizeLine) xss.flatten
section
variable {X : Cx} {T : Bool} {tg iter elt tg1 iter1 : Expr} {τ : TEnv} {M : Mem} {E : XKx} {pos : Pos} {P : PK'}
theorem ex_flat {scope : Scope} (own : List (Str × Nat)) (vs1 : List Nat) (h : EI X tg iter τ M (FlatQ X scope (own.map (·.2)) vs1 tg tg1 iter1 elt τ P) E) (hv : ∀ i ∈ vs1, i ∈ own.map (·.2) := by decide)
    (ok : BlkOk X.N X.env.scope scope own := by exact blkOk_by (by first | decide +kernel | kernel_rfl)) (hN : X.N.Nodup := by first | decide +kernel | exact of_decide_eq_true (by kernel_rfl)) (hc : X.calm = true := by rfl) (hs : ∀ x, foldedSetIterable iter X.env x = pure x := by intro _; rfl) (hs1 : ∀ env x, foldedSetIterable iter1 env x = pure x := by intro _ _; rfl) :
    EX X T (.ListComp elt [⟨tg, iter, [], 0⟩, ⟨tg1, iter1, [], 0⟩] scope pos) τ M P E := .mk fun W tk σ G H hE hH Q hP hX =>
  tW_of (pe_lc2 hc hN pi_W ok hv pg_fam pt_fam pi_fam pg_fam pt_fam pe_fam hs hs1) (flat_read h tk hE hH hP hX)
theorem flatT {α : Type} (f : α → Dat) {xss : List (List α)} {scope : Scope} {vs vs1 : List Nat} {Q : List α → Prop} {E1 : Er → Prop} {Ok : Mem → Prop} {M1 : Mem} (h : (pflat xss).Out Q E1) (hOk : Ok M1)
    (hb : ∀ (ds : List Dat) (s : Shared) (H : Hp) (C : Addr) (cl : List (Str × Addr)) (fp : List Addr), GC (Cx.Bk X scope s H C cl fp) vs tg (.lst ds) (wipeT τ vs) M1 (fun τ2 M2 => M2 = M1 ∧
        (∀ (s : Shared) (H : Hp) (C : Addr) (cl : List (Str × Addr)) (fp : List Addr), EI (Cx.Bk X scope s H C cl fp) tg1 iter1 τ2 M1 (fun ds' M3 Ok => ds' = ds ∧ M3 = M1 ∧ Ok M1) E0') ∧
        ∀ (d : Dat) (s : Shared) (H : Hp) (C : Addr) (cl : List (Str × Addr)) (fp : List Addr), GC (Cx.Bk X scope s H C cl fp) vs1 tg1 d (wipeT τ2 vs1) M1 (fun τ3 M4 => M4 = M1 ∧
          ∀ (s : Shared) (H : Hp) (C : Addr) (cl : List (Str × Addr)) (fp : List Addr), EX (Cx.Bk X scope s H C cl fp) false elt τ3 M1 (fun y M5 => y = d ∧ M5 = M1) E0')))
    (fin : ∀ ys, Q ys → P (lstD f ys) M1) : FlatQ X scope vs vs1 tg tg1 iter1 elt τ P (xss.map (lstD f)) M1 Ok := by
  have g := gd h
  have e : (xss.map fun xs => xs.map f).flatten = xss.flatten.map f := by rw [List.map_flatten]
  refine ⟨xss.map fun xs => xs.map f, by rw [List.map_map]; rfl, ?_, hOk, ?_, hb⟩
  · rw [e, List.length_map]; exact g.1
  · rw [e]; exact fin _ g.2
end
/-! ### max(a list of whole numbers) -/
def maxL : List Int → Int
  | [] => 0
  | x :: xs => xs.foldl max x
theorem maxF_ge : ∀ {xs : List Int} {x : Int}, x ≤ xs.foldl max x ∧ ∀ y ∈ xs, y ≤ xs.foldl max x
  | [], x => ⟨Int.le_refl _, fun y h => by simp at h⟩
  | z :: xs, x => by
    obtain ⟨h1, h2⟩ := maxF_ge (xs := xs) (x := max x z)
    refine ⟨by show x ≤ xs.foldl max (max x z); omega, fun y hy => ?_⟩
    show y ≤ xs.foldl max (max x z)
    rcases List.mem_cons.mp hy with rfl | hy
    · omega
    · exact h2 y hy
theorem maxF_mem : ∀ {xs : List Int} {x : Int}, xs.foldl max x = x ∨ xs.foldl max x ∈ xs
  | [], x => .inl rfl
  | z :: xs, x => by
    show xs.foldl max (max x z) = x ∨ xs.foldl max (max x z) ∈ z :: xs
    rcases maxF_mem (xs := xs) (x := max x z) with h | h
    · rw [h]
      rcases Int.le_total x z with q | q
      · exact .inr (by rw [Int.max_eq_right q]; exact List.mem_cons_self)
      · exact .inl (Int.max_eq_left q)
    · exact .inr (List.mem_cons_of_mem _ h)
theorem maxL_mem {ns : List Int} (h : 0 < ns.length) : maxL ns ∈ ns := by
  cases ns with
  | nil => cases h
  | cons x xs => rcases maxF_mem (xs := xs) (x := x) with e | e
                 · show xs.foldl max x ∈ _; rw [e]; exact List.mem_cons_self
                 · exact List.mem_cons_of_mem _ e
theorem maxL_ge {ns : List Int} : ∀ y ∈ ns, y ≤ maxL ns := by
  cases ns with
  | nil => intro y h; simp at h
  | cons x xs =>
    intro y h
    rcases List.mem_cons.mp h with rfl | h
    · exact maxF_ge.1
    · exact maxF_ge.2 y h
def pmax (ns : List Int) : Res Int := guard (0 < ns.length) (maxL ns)
section
variable {X : Cx} {T : Bool} {M : Mem} {P : PK'} {E1 : Er → Prop}
theorem c_maxL {ns : List Int} {Q : Int → Prop} (h : (pmax ns).Out Q E1) (hk : ∀ m, Q m → P (.int m) M) (hc : X.calm = true := by rfl) : BC X (.builtin "max") [lstD Dat.int ns] M P := bc_of (cr_max hc) fun G H vs hH dv Q hP => by
  obtain ⟨v, rfl, d⟩ := one_inv dv
  obtain ⟨p, us, rfl, g, dl⟩ := d.lst_inv
  rw [dl.ints] at g
  have g2 := gd h
  refine ⟨p, ns, rfl, SqL.of (hH.sub _ _ g), g2.1, fun m hm hy => ?_⟩
  have e : m = maxL ns := Int.le_antisymm (maxL_ge m hm) (hy _ (maxL_mem g2.1))
  rw [e]
  exact hP _ _ _ _ _ (hk _ g2.2) Stp.refl hH den_int
end
/-! ### sorted(set(pairs)) -/
def psrt (rows : List (Int × Int)) : Res (List (Int × Int)) := guard (rows.length < 64 ∧ (rows.all fun p => decide (0 ≤ p.1) && decide (0 ≤ p.2)) = true) (sortU rows)
theorem psrt_out {rows : List (Int × Int)} {Q : List (Int × Int) → Prop} {E1 : Er → Prop} (h : (psrt rows).Out Q E1) : (rows.length < 64 ∧ ∀ p ∈ rows, 0 ≤ p.1 ∧ 0 ≤ p.2) ∧ Q (sortU rows) := by
  have g := gd h
  refine ⟨⟨g.1.1, fun p hp => ?_⟩, g.2⟩
  have := List.all_eq_true.mp g.1.2 p hp
  rw [Bool.and_eq_true, decide_eq_true_eq, decide_eq_true_eq] at this
  exact this
/-! ### a call of what an expression tells -/
section
variable {X : Cx} {τ : TEnv} {M : Mem} {P : PK'} {E : XKx} {cal e : Expr} {es : List Expr} {pos : Pos}
theorem ex_callX (h : EX X false cal τ M (fun d M1 => ∃ fa k fd ps S, d = .raw (.ref fa) ∧ FnD X.prog X.w X.K X.mg X.base k fa fd ps S ∧ Room k X.A ∧ PySem.W.keepIn X.K (.ref fa) = true ∧ Binds X.K fd ps [] ∧ EA X false (e :: es) τ M1 (fun ds M2 => AP S ds M2 P E) E) E)
    (hcl : eval (.Call cal (e :: es) [] pos) X.env = (eval cal X.env >>= fun f => callWith pos f [] (backTo pos (starEach (e :: es) X.env)) []) := by rfl) (he : starEach (e :: es) X.env = (false, eval e X.env) :: starEach es X.env := by rfl) (hpl : (backTo pos (starEach es X.env)).any (·.1) = false := by rfl) :
    EX X false (.Call cal (e :: es) [] pos) τ M P E := by
  refine .mk ?_; intro W tk σ G H hE hH Q hP hX pins s k0 I
  rw [hcl]
  have hO := h.run W tk σ G H hE hH (fun x H1 => ∃ fa k fd ps S, x = .ref fa ∧ FnD X.prog X.w X.K X.mg X.base k fa fd ps S ∧ Room k X.A ∧ PySem.W.keepIn X.K (.ref fa) = true ∧ Binds X.K fd ps [] ∧ tWA X false (e :: es) σ H1 (fun vs H2 => toSp X.K S vs H2 Q (fun c d H3 => W c d σ H3)))
    (fun d M1 v G1 H1 ⟨fa, k, fd, ps, S, ed, F, hr, hk, hb, ha⟩ s1 h1 dv => by
      subst ed
      exact ⟨fa, k, fd, ps, S, dv.raw_inv, F, hr, hk, hb, ha.run W tk σ G1 H1 (hE.up s1.gg) h1 _ (fun ds M2 vs G2 H2 hap s2 h2 dvs => ap_toSp hap dvs h2 (hP.step (s1.trans s2)) (hX.step (s1.trans s2))) (hX.step s1)⟩) hX
  refine wpAny_bind (thn (hO pins s tk_f I) fun u s1 ⟨x, H1, I1, rx, fa, k, fd, ps, S, ex, F, hr, hk, hb, hA⟩ => ?_)
  subst ex
  obtain rfl : u = Value.ref fa := rx
  refine PySem.W.callWith_K (h₀ := X.base) I1.ok.mod.kin hk (thn (hA pos pins s1 tk_f I1) fun us s2 ⟨vs, H2, I2, r, q⟩ => ⟨I2.kIn, ?_⟩) he hpl
  exact run_d (dsv := []) (dvs := []) F hr hb .nil tk I2 r (by rw [List.append_nil]; exact q)
end
end Kh

set_option Elab.async false
set_option linter.all false
set_option maxRecDepth 100000
set_option maxHeartbeats 1000000
namespace Kh
open PySem PySem.Spec L2
section
variable {X : Cx} {T : Bool} {M : Mem} {P : PK'}
/-- list + list, the new one as a cell -/
theorem o_catNew {x y : Dat} {xs ys : List Dat} (lx : LsD M x xs) (ly : LsD M y ys) (hl : xs.length + ys.length ≤ sizeLine) (h : ∀ q, P (.raw (.ref q)) ((q, .lst (xs ++ ys)) :: M)) : OP X T (binaryOp .Add) x y M P := op_of op_cat fun G H v u hH dx dy Q hP => by
  obtain ⟨p, vs, rfl, g1, d1⟩ := lx.get hH dx
  obtain ⟨q, us, rfl, g2, d2⟩ := ly.get hH dy
  refine ⟨p, q, vs, us, rfl, rfl, g1, g2, by rw [d1.length, d2.length]; exact hl, fun r hr => ?_⟩
  obtain ⟨s2, h2⟩ := cell_new hH hr (d1.append d2)
  exact hP _ _ _ _ _ (h r) s2 h2 den_raw
end
end Kh
namespace Kh
open PySem PySem.Spec L2
section
variable {X : Cx} {T : Bool} {τ : TEnv} {M : Mem} {P : PK'} {E : XKx} {e : Expr} {p1 p2 pos1 pos2 : Pos}
theorem ex_srtSetT (hm1 : X.mg "sorted" = none) (hm2 : X.mg "set" = none) (hu : X.A.units + 64 < cLine) (h : EX X T e τ M (fun d M1 => ∃ rows : List (Int × Int), d = lstD ipD rows ∧ ∃ Q E1, (psrt rows).Out Q E1 ∧ ∀ z, Q z → P (lstD ipD z) M1) E) (hc : X.calm = true := by rfl)
    (hg1 : Gl X "sorted" := by rfl) (hg2 : Gl X "set" := by rfl) (he1 : starEach [.Call (.Name "set" p2) [e] [] pos2] X.env = (false, eval (.Call (.Name "set" p2) [e] [] pos2) X.env) :: starEach [] X.env := by rfl) (he2 : starEach [e] X.env = (false, eval e X.env) :: starEach [] X.env := by rfl)
    (hp1 : (backTo pos1 (starEach [] X.env)).any (·.1) = false := by rfl) (hp2 : (backTo pos2 (starEach [] X.env)).any (·.1) = false := by rfl) :
    EX X T (.Call (.Name "sorted" p1) [.Call (.Name "set" p2) [e] [] pos2] [] pos1) τ M P E :=
  ex_srtSet hm1 hm2 (h.imp (fun d M1 ⟨rows, ed, Q, E1, ho, hk⟩ => ⟨rows, ed, (psrt_out ho).1, hk _ (psrt_out ho).2⟩) fun _ _ x => x) hu hc hg1 hg2 he1 he2 hp1 hp2
end
end Kh

set_option Elab.async false
set_option linter.all false
set_option maxRecDepth 100000
set_option maxHeartbeats 2000000
namespace Kh
open PySem PySem.Spec L2
open PySem.W (Frag ksFn)
def top (i : Nat) : Stmt := PySem.Challenge.pw_keptholes_k24_refused_comparisons.main.body.getD i (.Pass ⟨0, 0, 0, 0⟩)
abbrev s_is_whole : Stmt := top 7
abbrev N_is_whole : List Str := ["value"]
abbrev P_is_whole : List Str := ["value"]
theorem sc_is_whole : FnScope N_is_whole P_is_whole (defScope s_is_whole) := ⟨rfl, rfl, rfl, by decide +kernel, rfl, by decide +kernel, by decide +kernel⟩
abbrev s_check_least : Stmt := top 8
abbrev N_check_least : List Str := ["value", "least"]
abbrev P_check_least : List Str := ["value", "least"]
theorem sc_check_least : FnScope N_check_least P_check_least (defScope s_check_least) := ⟨rfl, rfl, rfl, by decide +kernel, rfl, by decide +kernel, by decide +kernel⟩
abbrev s_check_within : Stmt := top 9
abbrev N_check_within : List Str := ["value", "first", "last"]
abbrev P_check_within : List Str := ["value", "first", "last"]
theorem sc_check_within : FnScope N_check_within P_check_within (defScope s_check_within) := ⟨rfl, rfl, rfl, by decide +kernel, rfl, by decide +kernel, by decide +kernel⟩
abbrev s_divisor_of : Stmt := top 10
abbrev N_divisor_of : List Str := ["one", "other"]
abbrev P_divisor_of : List Str := ["one", "other"]
theorem sc_divisor_of : FnScope N_divisor_of P_divisor_of (defScope s_divisor_of) := ⟨rfl, rfl, rfl, by decide +kernel, rfl, by decide +kernel, by decide +kernel⟩
abbrev s_multiple_of : Stmt := top 11
abbrev N_multiple_of : List Str := ["numbers", "found", "number"]
abbrev P_multiple_of : List Str := ["numbers"]
theorem sc_multiple_of : FnScope N_multiple_of P_multiple_of (defScope s_multiple_of) := ⟨rfl, rfl, rfl, by decide +kernel, rfl, by decide +kernel, by decide +kernel⟩
abbrev s_are_cells : Stmt := top 14
abbrev N_are_cells : List Str := ["value", "cell"]
abbrev P_are_cells : List Str := ["value"]
theorem sc_are_cells : FnScope N_are_cells P_are_cells (defScope s_are_cells) := ⟨rfl, rfl, rfl, by decide +kernel, rfl, by decide +kernel, by decide +kernel⟩
abbrev s_are_steps : Stmt := top 22
abbrev N_are_steps : List Str := ["value", "step"]
abbrev P_are_steps : List Str := ["value"]
theorem sc_are_steps : FnScope N_are_steps P_are_steps (defScope s_are_steps) := ⟨rfl, rfl, rfl, by decide +kernel, rfl, by decide +kernel, by decide +kernel⟩
abbrev s_check_script : Stmt := top 24
abbrev N_check_script : List Str := ["value"]
abbrev P_check_script : List Str := ["value"]
theorem sc_check_script : FnScope N_check_script P_check_script (defScope s_check_script) := ⟨rfl, rfl, rfl, by decide +kernel, rfl, by decide +kernel, by decide +kernel⟩
abbrev s_holds_in : Stmt := top 26
abbrev N_holds_in : List Str := ["one", "other"]
abbrev P_holds_in : List Str := ["one", "other"]
theorem sc_holds_in : FnScope N_holds_in P_holds_in (defScope s_holds_in) := ⟨rfl, rfl, rfl, by decide +kernel, rfl, by decide +kernel, by decide +kernel⟩
abbrev s_is_held : Stmt := top 27
abbrev N_is_held : List Str := ["rows", "other", "row"]
abbrev P_is_held : List Str := ["rows", "other"]
theorem sc_is_held : FnScope N_is_held P_is_held (defScope s_is_held) := ⟨rfl, rfl, rfl, by decide +kernel, rfl, by decide +kernel, by decide +kernel⟩
abbrev s_least_of : Stmt := top 28
abbrev N_least_of : List Str := ["rows", "found", "row"]
abbrev P_least_of : List Str := ["rows"]
theorem sc_least_of : FnScope N_least_of P_least_of (defScope s_least_of) := ⟨rfl, rfl, rfl, by decide +kernel, rfl, by decide +kernel, by decide +kernel⟩
abbrev s_dug : Stmt := top 29
abbrev N_dug : List Str := ["rows", "bits", "found", "written", "signs", "row", "bit"]
abbrev P_dug : List Str := ["rows", "bits"]
theorem sc_dug : FnScope N_dug P_dug (defScope s_dug) := ⟨rfl, rfl, rfl, by decide +kernel, rfl, by decide +kernel, by decide +kernel⟩
abbrev s_behind_step : Stmt := top 30
abbrev N_behind_step : List Str := ["step", "table", "found", "begin", "block", "bits", "union", "rows", "at", "row", "bit"]
abbrev P_behind_step : List Str := ["step", "table"]
theorem sc_behind_step : FnScope N_behind_step P_behind_step (defScope s_behind_step) := ⟨rfl, rfl, rfl, by decide +kernel, rfl, by decide +kernel, by decide +kernel⟩
abbrev s_reason_table : Stmt := top 31
abbrev N_reason_table : List Str := ["script", "table", "step", "at"]
abbrev P_reason_table : List Str := ["script"]
theorem sc_reason_table : FnScope N_reason_table P_reason_table (defScope s_reason_table) := ⟨rfl, rfl, rfl, by decide +kernel, rfl, by decide +kernel, by decide +kernel⟩
abbrev s_moved_table : Stmt := top 33
abbrev N_moved_table : List Str := ["script", "length", "table", "found", "first", "rows", "written", "signs"]
abbrev P_moved_table : List Str := ["script", "length"]
theorem sc_moved_table : FnScope N_moved_table P_moved_table (defScope s_moved_table) := ⟨rfl, rfl, rfl, by decide +kernel, rfl, by decide +kernel, by decide +kernel⟩
abbrev s_put_down : Stmt := top 34
abbrev N_put_down : List Str := ["row", "cell", "length", "written", "signs", "kinds", "last", "at", "kind"]
abbrev P_put_down : List Str := ["row", "cell", "length"]
theorem sc_put_down : FnScope N_put_down P_put_down (defScope s_put_down) := ⟨rfl, rfl, rfl, by decide +kernel, rfl, by decide +kernel, by decide +kernel⟩
abbrev s_more_of : Stmt := top 35
abbrev N_more_of : List Str := ["one", "other", "length", "others", "cell", "rows", "row"]
abbrev P_more_of : List Str := ["one", "other"]
theorem sc_more_of : FnScope N_more_of P_more_of (defScope s_more_of) := ⟨rfl, rfl, rfl, by decide +kernel, rfl, by decide +kernel, by decide +kernel⟩
abbrev s_check_two : Stmt := top 36
abbrev N_check_two : List Str := ["one", "other"]
abbrev P_check_two : List Str := ["one", "other"]
theorem sc_check_two : FnScope N_check_two P_check_two (defScope s_check_two) := ⟨rfl, rfl, rfl, by decide +kernel, rfl, by decide +kernel, by decide +kernel⟩
abbrev s_more_file : Stmt := top 37
abbrev N_more_file : List Str := ["one", "other"]
abbrev P_more_file : List Str := ["one", "other"]
theorem sc_more_file : FnScope N_more_file P_more_file (defScope s_more_file) := ⟨rfl, rfl, rfl, by decide +kernel, rfl, by decide +kernel, by decide +kernel⟩
abbrev s_never_more : Stmt := top 38
abbrev N_never_more : List Str := ["one", "other"]
abbrev P_never_more : List Str := ["one", "other"]
theorem sc_never_more : FnScope N_never_more P_never_more (defScope s_never_more) := ⟨rfl, rfl, rfl, by decide +kernel, rfl, by decide +kernel, by decide +kernel⟩
abbrev s_parting_of : Stmt := top 39
abbrev N_parting_of : List Str := ["one", "other", "found"]
abbrev P_parting_of : List Str := ["one", "other"]
theorem sc_parting_of : FnScope N_parting_of P_parting_of (defScope s_parting_of) := ⟨rfl, rfl, rfl, by decide +kernel, rfl, by decide +kernel, by decide +kernel⟩
abbrev s_parting : Stmt := top 40
abbrev N_parting : List Str := ["one", "other"]
abbrev P_parting : List Str := ["one", "other"]
theorem sc_parting : FnScope N_parting P_parting (defScope s_parting) := ⟨rfl, rfl, rfl, by decide +kernel, rfl, by decide +kernel, by decide +kernel⟩
abbrev s_alike : Stmt := top 41
abbrev N_alike : List Str := ["one", "other"]
abbrev P_alike : List Str := ["one", "other"]
theorem sc_alike : FnScope N_alike P_alike (defScope s_alike) := ⟨rfl, rfl, rfl, by decide +kernel, rfl, by decide +kernel, by decide +kernel⟩
abbrev s_exchangeable : Stmt := top 42
abbrev N_exchangeable : List Str := ["one", "other"]
abbrev P_exchangeable : List Str := ["one", "other"]
theorem sc_exchangeable : FnScope N_exchangeable P_exchangeable (defScope s_exchangeable) := ⟨rfl, rfl, rfl, by decide +kernel, rfl, by decide +kernel, by decide +kernel⟩
abbrev s_needless : Stmt := top 43
abbrev N_needless : List Str := ["script", "k"]
abbrev P_needless : List Str := ["script"]
theorem sc_needless : FnScope N_needless P_needless (defScope s_needless) := ⟨rfl, rfl, rfl, by decide +kernel, rfl, by decide +kernel, by decide +kernel⟩
abbrev s_keeps_holes : Stmt := top 44
abbrev N_keeps_holes : List Str := ["script"]
abbrev P_keeps_holes : List Str := ["script"]
theorem sc_keeps_holes : FnScope N_keeps_holes P_keeps_holes (defScope s_keeps_holes) := ⟨rfl, rfl, rfl, by decide +kernel, rfl, by decide +kernel, by decide +kernel⟩
abbrev s_keeps_written : Stmt := top 45
abbrev N_keeps_written : List Str := ["script"]
abbrev P_keeps_written : List Str := ["script"]
theorem sc_keeps_written : FnScope N_keeps_written P_keeps_written (defScope s_keeps_written) := ⟨rfl, rfl, rfl, by decide +kernel, rfl, by decide +kernel, by decide +kernel⟩
abbrev s_law_purse : Stmt := top 47
abbrev N_law_purse : List Str := ["script", "at", "cell"]
abbrev P_law_purse : List Str := ["script", "at"]
theorem sc_law_purse : FnScope N_law_purse P_law_purse (defScope s_law_purse) := ⟨rfl, rfl, rfl, by decide +kernel, rfl, by decide +kernel, by decide +kernel⟩
abbrev s_law_draw : Stmt := top 48
abbrev N_law_draw : List Str := ["purse", "many", "digit", "number"]
abbrev P_law_draw : List Str := ["purse", "many"]
theorem sc_law_draw : FnScope N_law_draw P_law_draw (defScope s_law_draw) := ⟨rfl, rfl, rfl, by decide +kernel, rfl, by decide +kernel, by decide +kernel⟩
abbrev s_law_steps : Stmt := top 49
abbrev N_law_steps : List Str := ["purse", "sizes", "most", "found", "turn", "kind"]
abbrev P_law_steps : List Str := ["purse", "sizes", "most"]
theorem sc_law_steps : FnScope N_law_steps P_law_steps (defScope s_law_steps) := ⟨rfl, rfl, rfl, by decide +kernel, rfl, by decide +kernel, by decide +kernel⟩
abbrev s_law_step : Stmt := top 50
abbrev N_law_step : List Str := ["step"]
abbrev P_law_step : List Str := ["step"]
theorem sc_law_step : FnScope N_law_step P_law_step (defScope s_law_step) := ⟨rfl, rfl, rfl, by decide +kernel, rfl, by decide +kernel, by decide +kernel⟩
abbrev s_law_script : Stmt := top 51
abbrev N_law_script : List Str := ["steps", "step"]
abbrev P_law_script : List Str := ["steps"]
theorem sc_law_script : FnScope N_law_script P_law_script (defScope s_law_script) := ⟨rfl, rfl, rfl, by decide +kernel, rfl, by decide +kernel, by decide +kernel⟩
abbrev s_law_call : Stmt := top 52
abbrev N_law_call : List Str := ["way", "one", "other"]
abbrev P_law_call : List Str := ["way", "one", "other"]
theorem sc_law_call : FnScope N_law_call P_law_call (defScope s_law_call) := ⟨rfl, rfl, rfl, by decide +kernel, rfl, by decide +kernel, by decide +kernel⟩
abbrev s_law_told : Stmt := top 53
abbrev N_law_told : List Str := ["way", "one", "other", "found", "e"]
abbrev P_law_told : List Str := ["way", "one", "other"]
theorem sc_law_told : FnScope N_law_told P_law_told (defScope s_law_told) := ⟨rfl, rfl, rfl, by decide +kernel, rfl, by decide +kernel, by decide +kernel⟩
abbrev s_law : Stmt := top 54
abbrev N_law : List Str := ["script", "steps", "made", "things", "value", "way", "other", "step"]
abbrev P_law : List Str := ["script"]
theorem sc_law : FnScope N_law P_law (defScope s_law) := ⟨rfl, rfl, rfl, by decide +kernel, rfl, by decide +kernel, by decide +kernel⟩
abbrev s_File_init : Stmt := inClass (top 15) 0
abbrev N_File_init : List Str := ["self", "cells"]
abbrev P_File_init : List Str := ["self", "cells"]
theorem sc_File_init : FnScope N_File_init P_File_init (defScope s_File_init) := ⟨rfl, rfl, rfl, by decide +kernel, rfl, by decide +kernel, by decide +kernel⟩
abbrev s_File_cells : Stmt := inClass (top 15) 1
abbrev N_File_cells : List Str := ["self"]
abbrev P_File_cells : List Str := ["self"]
theorem sc_File_cells : FnScope N_File_cells P_File_cells (defScope s_File_cells) := ⟨rfl, rfl, rfl, by decide +kernel, rfl, by decide +kernel, by decide +kernel⟩
abbrev s_File_len : Stmt := inClass (top 15) 4
abbrev N_File_len : List Str := ["self"]
abbrev P_File_len : List Str := ["self"]
theorem sc_File_len : FnScope N_File_len P_File_len (defScope s_File_len) := ⟨rfl, rfl, rfl, by decide +kernel, rfl, by decide +kernel, by decide +kernel⟩
abbrev s_File_iter : Stmt := inClass (top 15) 5
abbrev N_File_iter : List Str := ["self"]
abbrev P_File_iter : List Str := ["self"]
theorem sc_File_iter : FnScope N_File_iter P_File_iter (defScope s_File_iter) := ⟨rfl, rfl, rfl, by decide +kernel, rfl, by decide +kernel, by decide +kernel⟩
abbrev s_File_getitem : Stmt := inClass (top 15) 6
abbrev N_File_getitem : List Str := ["self", "k"]
abbrev P_File_getitem : List Str := ["self", "k"]
theorem sc_File_getitem : FnScope N_File_getitem P_File_getitem (defScope s_File_getitem) := ⟨rfl, rfl, rfl, by decide +kernel, rfl, by decide +kernel, by decide +kernel⟩
abbrev s_File_eq : Stmt := inClass (top 15) 7
abbrev N_File_eq : List Str := ["self", "other"]
abbrev P_File_eq : List Str := ["self", "other"]
theorem sc_File_eq : FnScope N_File_eq P_File_eq (defScope s_File_eq) := ⟨rfl, rfl, rfl, by decide +kernel, rfl, by decide +kernel, by decide +kernel⟩
abbrev s_Full_eq : Stmt := inClass (top 18) 1
abbrev N_Full_eq : List Str := ["self", "other"]
abbrev P_Full_eq : List Str := ["self", "other"]
theorem sc_Full_eq : FnScope N_Full_eq P_Full_eq (defScope s_Full_eq) := ⟨rfl, rfl, rfl, by decide +kernel, rfl, by decide +kernel, by decide +kernel⟩
abbrev s_Keep_init : Stmt := inClass (top 19) 0
abbrev N_Keep_init : List Str := ["self", "size"]
abbrev P_Keep_init : List Str := ["self", "size"]
theorem sc_Keep_init : FnScope N_Keep_init P_Keep_init (defScope s_Keep_init) := ⟨rfl, rfl, rfl, by decide +kernel, rfl, by decide +kernel, by decide +kernel⟩
abbrev s_Keep_size : Stmt := inClass (top 19) 1
abbrev N_Keep_size : List Str := ["self"]
abbrev P_Keep_size : List Str := ["self"]
theorem sc_Keep_size : FnScope N_Keep_size P_Keep_size (defScope s_Keep_size) := ⟨rfl, rfl, rfl, by decide +kernel, rfl, by decide +kernel, by decide +kernel⟩
abbrev s_Keep_eq : Stmt := inClass (top 19) 3
abbrev N_Keep_eq : List Str := ["self", "other"]
abbrev P_Keep_eq : List Str := ["self", "other"]
theorem sc_Keep_eq : FnScope N_Keep_eq P_Keep_eq (defScope s_Keep_eq) := ⟨rfl, rfl, rfl, by decide +kernel, rfl, by decide +kernel, by decide +kernel⟩
abbrev s_Lean_init : Stmt := inClass (top 20) 0
abbrev N_Lean_init : List Str := ["self", "size"]
abbrev P_Lean_init : List Str := ["self", "size"]
theorem sc_Lean_init : FnScope N_Lean_init P_Lean_init (defScope s_Lean_init) := ⟨rfl, rfl, rfl, by decide +kernel, rfl, by decide +kernel, by decide +kernel⟩
abbrev s_Lean_size : Stmt := inClass (top 20) 1
abbrev N_Lean_size : List Str := ["self"]
abbrev P_Lean_size : List Str := ["self"]
theorem sc_Lean_size : FnScope N_Lean_size P_Lean_size (defScope s_Lean_size) := ⟨rfl, rfl, rfl, by decide +kernel, rfl, by decide +kernel, by decide +kernel⟩
abbrev s_Lean_eq : Stmt := inClass (top 20) 3
abbrev N_Lean_eq : List Str := ["self", "other"]
abbrev P_Lean_eq : List Str := ["self", "other"]
theorem sc_Lean_eq : FnScope N_Lean_eq P_Lean_eq (defScope s_Lean_eq) := ⟨rfl, rfl, rfl, by decide +kernel, rfl, by decide +kernel, by decide +kernel⟩
abbrev s_Dig_init : Stmt := inClass (top 21) 0
abbrev N_Dig_init : List Str := ["self", "size"]
abbrev P_Dig_init : List Str := ["self", "size"]
theorem sc_Dig_init : FnScope N_Dig_init P_Dig_init (defScope s_Dig_init) := ⟨rfl, rfl, rfl, by decide +kernel, rfl, by decide +kernel, by decide +kernel⟩
abbrev s_Dig_size : Stmt := inClass (top 21) 1
abbrev N_Dig_size : List Str := ["self"]
abbrev P_Dig_size : List Str := ["self"]
theorem sc_Dig_size : FnScope N_Dig_size P_Dig_size (defScope s_Dig_size) := ⟨rfl, rfl, rfl, by decide +kernel, rfl, by decide +kernel, by decide +kernel⟩
abbrev s_Dig_eq : Stmt := inClass (top 21) 3
abbrev N_Dig_eq : List Str := ["self", "other"]
abbrev P_Dig_eq : List Str := ["self", "other"]
theorem sc_Dig_eq : FnScope N_Dig_eq P_Dig_eq (defScope s_Dig_eq) := ⟨rfl, rfl, rfl, by decide +kernel, rfl, by decide +kernel, by decide +kernel⟩
abbrev s_Script_init : Stmt := inClass (top 23) 0
abbrev N_Script_init : List Str := ["self", "steps", "rows"]
abbrev P_Script_init : List Str := ["self", "steps"]
theorem sc_Script_init : FnScope N_Script_init P_Script_init (defScope s_Script_init) := ⟨rfl, rfl, rfl, by decide +kernel, rfl, by decide +kernel, by decide +kernel⟩
abbrev s_Script_period : Stmt := inClass (top 23) 1
abbrev N_Script_period : List Str := ["self", "step"]
abbrev P_Script_period : List Str := ["self"]
theorem sc_Script_period : FnScope N_Script_period P_Script_period (defScope s_Script_period) := ⟨rfl, rfl, rfl, by decide +kernel, rfl, by decide +kernel, by decide +kernel⟩
abbrev s_Script_len : Stmt := inClass (top 23) 2
abbrev N_Script_len : List Str := ["self"]
abbrev P_Script_len : List Str := ["self"]
theorem sc_Script_len : FnScope N_Script_len P_Script_len (defScope s_Script_len) := ⟨rfl, rfl, rfl, by decide +kernel, rfl, by decide +kernel, by decide +kernel⟩
abbrev s_Script_iter : Stmt := inClass (top 23) 3
abbrev N_Script_iter : List Str := ["self"]
abbrev P_Script_iter : List Str := ["self"]
theorem sc_Script_iter : FnScope N_Script_iter P_Script_iter (defScope s_Script_iter) := ⟨rfl, rfl, rfl, by decide +kernel, rfl, by decide +kernel, by decide +kernel⟩
abbrev s_Script_getitem : Stmt := inClass (top 23) 4
abbrev N_Script_getitem : List Str := ["self", "k"]
abbrev P_Script_getitem : List Str := ["self", "k"]
theorem sc_Script_getitem : FnScope N_Script_getitem P_Script_getitem (defScope s_Script_getitem) := ⟨rfl, rfl, rfl, by decide +kernel, rfl, by decide +kernel, by decide +kernel⟩
abbrev s_Script_eq : Stmt := inClass (top 23) 5
abbrev N_Script_eq : List Str := ["self", "other"]
abbrev P_Script_eq : List Str := ["self", "other"]
theorem sc_Script_eq : FnScope N_Script_eq P_Script_eq (defScope s_Script_eq) := ⟨rfl, rfl, rfl, by decide +kernel, rfl, by decide +kernel, by decide +kernel⟩
abbrev s_Script_add : Stmt := inClass (top 23) 6
abbrev N_Script_add : List Str := ["self", "other"]
abbrev P_Script_add : List Str := ["self", "other"]
theorem sc_Script_add : FnScope N_Script_add P_Script_add (defScope s_Script_add) := ⟨rfl, rfl, rfl, by decide +kernel, rfl, by decide +kernel, by decide +kernel⟩
abbrev s_Script_mul : Stmt := inClass (top 23) 7
abbrev N_Script_mul : List Str := ["self", "times"]
abbrev P_Script_mul : List Str := ["self", "times"]
theorem sc_Script_mul : FnScope N_Script_mul P_Script_mul (defScope s_Script_mul) := ⟨rfl, rfl, rfl, by decide +kernel, rfl, by decide +kernel, by decide +kernel⟩
abbrev s_Script_without : Stmt := inClass (top 23) 8
abbrev N_Script_without : List Str := ["self", "k"]
abbrev P_Script_without : List Str := ["self", "k"]
theorem sc_Script_without : FnScope N_Script_without P_Script_without (defScope s_Script_without) := ⟨rfl, rfl, rfl, by decide +kernel, rfl, by decide +kernel, by decide +kernel⟩
abbrev si_InvalidFile : Stmt := inClass (top 3) 0
abbrev si_InvalidNumber : Stmt := inClass (top 4) 0
abbrev si_InvalidScript : Stmt := inClass (top 5) 0
structure Prg (K : Frag) (mg : Str → Option Value) where
  n_ValueError : mg "ValueError" = none
  n_bool : mg "bool" = none
  n_enumerate : mg "enumerate" = none
  n_int : mg "int" = none
  n_isinstance : mg "isinstance" = none
  n_iter : mg "iter" = none
  n_len : mg "len" = none
  n_list : mg "list" = none
  n_max : mg "max" = none
  n_property : mg "property" = none
  n_range : mg "range" = none
  n_set : mg "set" = none
  n_sorted : mg "sorted" = none
  n_str : mg "str" = none
  n_sum : mg "sum" = none
  n_super : mg "super" = none
  n_tuple : mg "tuple" = none
  tg_SIGNS : Tok
  g_SIGNS : mg "SIGNS" = some (.str "abcdefghijklmnopqrstuvwxyz" tg_SIGNS)
  C_File : Addr
  mc_File : mg "File" = some (.ref C_File)
  C_Step : Addr
  mc_Step : mg "Step" = some (.ref C_Step)
  C_Full : Addr
  mc_Full : mg "Full" = some (.ref C_Full)
  C_Keep : Addr
  mc_Keep : mg "Keep" = some (.ref C_Keep)
  C_Lean : Addr
  mc_Lean : mg "Lean" = some (.ref C_Lean)
  C_Dig : Addr
  mc_Dig : mg "Dig" = some (.ref C_Dig)
  C_Script : Addr
  mc_Script : mg "Script" = some (.ref C_Script)
  f_is_whole : Addr
  d_is_whole : FuncData
  F_is_whole : Fun K "is_whole" "is_whole" s_is_whole f_is_whole d_is_whole
  b_is_whole : Binds K d_is_whole P_is_whole []
  m_is_whole : mg "is_whole" = some (.ref f_is_whole)
  f_check_least : Addr
  d_check_least : FuncData
  F_check_least : Fun K "check_least" "check_least" s_check_least f_check_least d_check_least
  b_check_least : Binds K d_check_least P_check_least []
  m_check_least : mg "check_least" = some (.ref f_check_least)
  f_check_within : Addr
  d_check_within : FuncData
  F_check_within : Fun K "check_within" "check_within" s_check_within f_check_within d_check_within
  b_check_within : Binds K d_check_within P_check_within []
  m_check_within : mg "check_within" = some (.ref f_check_within)
  f_divisor_of : Addr
  d_divisor_of : FuncData
  F_divisor_of : Fun K "divisor_of" "divisor_of" s_divisor_of f_divisor_of d_divisor_of
  b_divisor_of : Binds K d_divisor_of P_divisor_of []
  m_divisor_of : mg "divisor_of" = some (.ref f_divisor_of)
  f_multiple_of : Addr
  d_multiple_of : FuncData
  F_multiple_of : Fun K "multiple_of" "multiple_of" s_multiple_of f_multiple_of d_multiple_of
  b_multiple_of : Binds K d_multiple_of P_multiple_of []
  m_multiple_of : mg "multiple_of" = some (.ref f_multiple_of)
  f_are_cells : Addr
  d_are_cells : FuncData
  F_are_cells : Fun K "are_cells" "are_cells" s_are_cells f_are_cells d_are_cells
  b_are_cells : Binds K d_are_cells P_are_cells []
  m_are_cells : mg "are_cells" = some (.ref f_are_cells)
  f_are_steps : Addr
  d_are_steps : FuncData
  F_are_steps : Fun K "are_steps" "are_steps" s_are_steps f_are_steps d_are_steps
  b_are_steps : Binds K d_are_steps P_are_steps []
  m_are_steps : mg "are_steps" = some (.ref f_are_steps)
  f_check_script : Addr
  d_check_script : FuncData
  F_check_script : Fun K "check_script" "check_script" s_check_script f_check_script d_check_script
  b_check_script : Binds K d_check_script P_check_script []
  m_check_script : mg "check_script" = some (.ref f_check_script)
  f_holds_in : Addr
  d_holds_in : FuncData
  F_holds_in : Fun K "holds_in" "holds_in" s_holds_in f_holds_in d_holds_in
  b_holds_in : Binds K d_holds_in P_holds_in []
  m_holds_in : mg "holds_in" = some (.ref f_holds_in)
  f_is_held : Addr
  d_is_held : FuncData
  F_is_held : Fun K "is_held" "is_held" s_is_held f_is_held d_is_held
  b_is_held : Binds K d_is_held P_is_held []
  m_is_held : mg "is_held" = some (.ref f_is_held)
  f_least_of : Addr
  d_least_of : FuncData
  F_least_of : Fun K "least_of" "least_of" s_least_of f_least_of d_least_of
  b_least_of : Binds K d_least_of P_least_of []
  m_least_of : mg "least_of" = some (.ref f_least_of)
  f_dug : Addr
  d_dug : FuncData
  F_dug : Fun K "dug" "dug" s_dug f_dug d_dug
  b_dug : Binds K d_dug P_dug []
  m_dug : mg "dug" = some (.ref f_dug)
  f_behind_step : Addr
  d_behind_step : FuncData
  F_behind_step : Fun K "behind_step" "behind_step" s_behind_step f_behind_step d_behind_step
  b_behind_step : Binds K d_behind_step P_behind_step []
  m_behind_step : mg "behind_step" = some (.ref f_behind_step)
  f_reason_table : Addr
  d_reason_table : FuncData
  F_reason_table : Fun K "reason_table" "reason_table" s_reason_table f_reason_table d_reason_table
  b_reason_table : Binds K d_reason_table P_reason_table []
  m_reason_table : mg "reason_table" = some (.ref f_reason_table)
  f_moved_table : Addr
  d_moved_table : FuncData
  F_moved_table : Fun K "moved_table" "moved_table" s_moved_table f_moved_table d_moved_table
  b_moved_table : Binds K d_moved_table P_moved_table []
  m_moved_table : mg "moved_table" = some (.ref f_moved_table)
  f_put_down : Addr
  d_put_down : FuncData
  F_put_down : Fun K "put_down" "put_down" s_put_down f_put_down d_put_down
  b_put_down : Binds K d_put_down P_put_down []
  m_put_down : mg "put_down" = some (.ref f_put_down)
  f_more_of : Addr
  d_more_of : FuncData
  F_more_of : Fun K "more_of" "more_of" s_more_of f_more_of d_more_of
  b_more_of : Binds K d_more_of P_more_of []
  m_more_of : mg "more_of" = some (.ref f_more_of)
  f_check_two : Addr
  d_check_two : FuncData
  F_check_two : Fun K "check_two" "check_two" s_check_two f_check_two d_check_two
  b_check_two : Binds K d_check_two P_check_two []
  m_check_two : mg "check_two" = some (.ref f_check_two)
  f_more_file : Addr
  d_more_file : FuncData
  F_more_file : Fun K "more_file" "more_file" s_more_file f_more_file d_more_file
  b_more_file : Binds K d_more_file P_more_file []
  m_more_file : mg "more_file" = some (.ref f_more_file)
  f_never_more : Addr
  d_never_more : FuncData
  F_never_more : Fun K "never_more" "never_more" s_never_more f_never_more d_never_more
  b_never_more : Binds K d_never_more P_never_more []
  m_never_more : mg "never_more" = some (.ref f_never_more)
  f_parting_of : Addr
  d_parting_of : FuncData
  F_parting_of : Fun K "parting_of" "parting_of" s_parting_of f_parting_of d_parting_of
  b_parting_of : Binds K d_parting_of P_parting_of []
  m_parting_of : mg "parting_of" = some (.ref f_parting_of)
  f_parting : Addr
  d_parting : FuncData
  F_parting : Fun K "parting" "parting" s_parting f_parting d_parting
  b_parting : Binds K d_parting P_parting []
  m_parting : mg "parting" = some (.ref f_parting)
  f_alike : Addr
  d_alike : FuncData
  F_alike : Fun K "alike" "alike" s_alike f_alike d_alike
  b_alike : Binds K d_alike P_alike []
  m_alike : mg "alike" = some (.ref f_alike)
  f_exchangeable : Addr
  d_exchangeable : FuncData
  F_exchangeable : Fun K "exchangeable" "exchangeable" s_exchangeable f_exchangeable d_exchangeable
  b_exchangeable : Binds K d_exchangeable P_exchangeable []
  m_exchangeable : mg "exchangeable" = some (.ref f_exchangeable)
  f_needless : Addr
  d_needless : FuncData
  F_needless : Fun K "needless" "needless" s_needless f_needless d_needless
  b_needless : Binds K d_needless P_needless []
  m_needless : mg "needless" = some (.ref f_needless)
  f_keeps_holes : Addr
  d_keeps_holes : FuncData
  F_keeps_holes : Fun K "keeps_holes" "keeps_holes" s_keeps_holes f_keeps_holes d_keeps_holes
  b_keeps_holes : Binds K d_keeps_holes P_keeps_holes []
  m_keeps_holes : mg "keeps_holes" = some (.ref f_keeps_holes)
  f_keeps_written : Addr
  d_keeps_written : FuncData
  F_keeps_written : Fun K "keeps_written" "keeps_written" s_keeps_written f_keeps_written d_keeps_written
  b_keeps_written : Binds K d_keeps_written P_keeps_written []
  m_keeps_written : mg "keeps_written" = some (.ref f_keeps_written)
  f_law_purse : Addr
  d_law_purse : FuncData
  F_law_purse : Fun K "_law_purse" "_law_purse" s_law_purse f_law_purse d_law_purse
  b_law_purse : Binds K d_law_purse P_law_purse []
  m_law_purse : mg "_law_purse" = some (.ref f_law_purse)
  f_law_draw : Addr
  d_law_draw : FuncData
  F_law_draw : Fun K "_law_draw" "_law_draw" s_law_draw f_law_draw d_law_draw
  b_law_draw : Binds K d_law_draw P_law_draw []
  m_law_draw : mg "_law_draw" = some (.ref f_law_draw)
  f_law_steps : Addr
  d_law_steps : FuncData
  F_law_steps : Fun K "_law_steps" "_law_steps" s_law_steps f_law_steps d_law_steps
  b_law_steps : Binds K d_law_steps P_law_steps []
  m_law_steps : mg "_law_steps" = some (.ref f_law_steps)
  f_law_step : Addr
  d_law_step : FuncData
  F_law_step : Fun K "_law_step" "_law_step" s_law_step f_law_step d_law_step
  b_law_step : Binds K d_law_step P_law_step []
  m_law_step : mg "_law_step" = some (.ref f_law_step)
  f_law_script : Addr
  d_law_script : FuncData
  F_law_script : Fun K "_law_script" "_law_script" s_law_script f_law_script d_law_script
  b_law_script : Binds K d_law_script P_law_script []
  m_law_script : mg "_law_script" = some (.ref f_law_script)
  f_law_call : Addr
  d_law_call : FuncData
  F_law_call : Fun K "_law_call" "_law_call" s_law_call f_law_call d_law_call
  b_law_call : Binds K d_law_call P_law_call []
  m_law_call : mg "_law_call" = some (.ref f_law_call)
  f_law_told : Addr
  d_law_told : FuncData
  F_law_told : Fun K "_law_told" "_law_told" s_law_told f_law_told d_law_told
  b_law_told : Binds K d_law_told P_law_told []
  m_law_told : mg "_law_told" = some (.ref f_law_told)
  f_law : Addr
  d_law : FuncData
  F_law : Fun K "law" "law" s_law f_law d_law
  b_law : Binds K d_law P_law []
  m_law : mg "law" = some (.ref f_law)
  tk0_File_init : Tok
  f_File_init : Addr
  d_File_init : FuncData
  F_File_init : FunV K "__init__" "File.__init__" s_File_init f_File_init d_File_init
  b_File_init : Binds K d_File_init P_File_init []
  b1_File_init : Binds K d_File_init P_File_init [(.str "" tk0_File_init)]
  M_File_init : Meth K C_File "__init__" f_File_init
  f_File_cells : Addr
  d_File_cells : FuncData
  F_File_cells : Fun K "cells" "File.cells" s_File_cells f_File_cells d_File_cells
  b_File_cells : Binds K d_File_cells P_File_cells []
  pr_File_cells : Addr
  V_File_cells : PropOf K C_File "cells" pr_File_cells f_File_cells
  f_File_len : Addr
  d_File_len : FuncData
  F_File_len : Fun K "__len__" "File.__len__" s_File_len f_File_len d_File_len
  b_File_len : Binds K d_File_len P_File_len []
  M_File_len : Meth K C_File "__len__" f_File_len
  f_File_iter : Addr
  d_File_iter : FuncData
  F_File_iter : Fun K "__iter__" "File.__iter__" s_File_iter f_File_iter d_File_iter
  b_File_iter : Binds K d_File_iter P_File_iter []
  M_File_iter : Meth K C_File "__iter__" f_File_iter
  f_File_getitem : Addr
  d_File_getitem : FuncData
  F_File_getitem : Fun K "__getitem__" "File.__getitem__" s_File_getitem f_File_getitem d_File_getitem
  b_File_getitem : Binds K d_File_getitem P_File_getitem []
  M_File_getitem : Meth K C_File "__getitem__" f_File_getitem
  f_File_eq : Addr
  d_File_eq : FuncData
  F_File_eq : Fun K "__eq__" "File.__eq__" s_File_eq f_File_eq d_File_eq
  b_File_eq : Binds K d_File_eq P_File_eq []
  M_File_eq : Meth K C_File "__eq__" f_File_eq
  f_Full_eq : Addr
  d_Full_eq : FuncData
  F_Full_eq : Fun K "__eq__" "Full.__eq__" s_Full_eq f_Full_eq d_Full_eq
  b_Full_eq : Binds K d_Full_eq P_Full_eq []
  M_Full_eq : Meth K C_Full "__eq__" f_Full_eq
  f_Keep_init : Addr
  d_Keep_init : FuncData
  F_Keep_init : Fun K "__init__" "Keep.__init__" s_Keep_init f_Keep_init d_Keep_init
  b_Keep_init : Binds K d_Keep_init P_Keep_init []
  M_Keep_init : Meth K C_Keep "__init__" f_Keep_init
  f_Keep_size : Addr
  d_Keep_size : FuncData
  F_Keep_size : Fun K "size" "Keep.size" s_Keep_size f_Keep_size d_Keep_size
  b_Keep_size : Binds K d_Keep_size P_Keep_size []
  pr_Keep_size : Addr
  V_Keep_size : PropOf K C_Keep "size" pr_Keep_size f_Keep_size
  f_Keep_eq : Addr
  d_Keep_eq : FuncData
  F_Keep_eq : Fun K "__eq__" "Keep.__eq__" s_Keep_eq f_Keep_eq d_Keep_eq
  b_Keep_eq : Binds K d_Keep_eq P_Keep_eq []
  M_Keep_eq : Meth K C_Keep "__eq__" f_Keep_eq
  f_Lean_init : Addr
  d_Lean_init : FuncData
  F_Lean_init : Fun K "__init__" "Lean.__init__" s_Lean_init f_Lean_init d_Lean_init
  b_Lean_init : Binds K d_Lean_init P_Lean_init []
  M_Lean_init : Meth K C_Lean "__init__" f_Lean_init
  f_Lean_size : Addr
  d_Lean_size : FuncData
  F_Lean_size : Fun K "size" "Lean.size" s_Lean_size f_Lean_size d_Lean_size
  b_Lean_size : Binds K d_Lean_size P_Lean_size []
  pr_Lean_size : Addr
  V_Lean_size : PropOf K C_Lean "size" pr_Lean_size f_Lean_size
  f_Lean_eq : Addr
  d_Lean_eq : FuncData
  F_Lean_eq : Fun K "__eq__" "Lean.__eq__" s_Lean_eq f_Lean_eq d_Lean_eq
  b_Lean_eq : Binds K d_Lean_eq P_Lean_eq []
  M_Lean_eq : Meth K C_Lean "__eq__" f_Lean_eq
  f_Dig_init : Addr
  d_Dig_init : FuncData
  F_Dig_init : Fun K "__init__" "Dig.__init__" s_Dig_init f_Dig_init d_Dig_init
  b_Dig_init : Binds K d_Dig_init P_Dig_init []
  M_Dig_init : Meth K C_Dig "__init__" f_Dig_init
  f_Dig_size : Addr
  d_Dig_size : FuncData
  F_Dig_size : Fun K "size" "Dig.size" s_Dig_size f_Dig_size d_Dig_size
  b_Dig_size : Binds K d_Dig_size P_Dig_size []
  pr_Dig_size : Addr
  V_Dig_size : PropOf K C_Dig "size" pr_Dig_size f_Dig_size
  f_Dig_eq : Addr
  d_Dig_eq : FuncData
  F_Dig_eq : Fun K "__eq__" "Dig.__eq__" s_Dig_eq f_Dig_eq d_Dig_eq
  b_Dig_eq : Binds K d_Dig_eq P_Dig_eq []
  M_Dig_eq : Meth K C_Dig "__eq__" f_Dig_eq
  f_Script_init : Addr
  d_Script_init : FuncData
  F_Script_init : FunV K "__init__" "Script.__init__" s_Script_init f_Script_init d_Script_init
  b_Script_init : Binds K d_Script_init P_Script_init []
  b1_Script_init : Binds K d_Script_init P_Script_init [.none]
  M_Script_init : Meth K C_Script "__init__" f_Script_init
  f_Script_period : Addr
  d_Script_period : FuncData
  F_Script_period : Fun K "period" "Script.period" s_Script_period f_Script_period d_Script_period
  b_Script_period : Binds K d_Script_period P_Script_period []
  pr_Script_period : Addr
  V_Script_period : PropOf K C_Script "period" pr_Script_period f_Script_period
  f_Script_len : Addr
  d_Script_len : FuncData
  F_Script_len : Fun K "__len__" "Script.__len__" s_Script_len f_Script_len d_Script_len
  b_Script_len : Binds K d_Script_len P_Script_len []
  M_Script_len : Meth K C_Script "__len__" f_Script_len
  f_Script_iter : Addr
  d_Script_iter : FuncData
  F_Script_iter : Fun K "__iter__" "Script.__iter__" s_Script_iter f_Script_iter d_Script_iter
  b_Script_iter : Binds K d_Script_iter P_Script_iter []
  M_Script_iter : Meth K C_Script "__iter__" f_Script_iter
  f_Script_getitem : Addr
  d_Script_getitem : FuncData
  F_Script_getitem : Fun K "__getitem__" "Script.__getitem__" s_Script_getitem f_Script_getitem d_Script_getitem
  b_Script_getitem : Binds K d_Script_getitem P_Script_getitem []
  M_Script_getitem : Meth K C_Script "__getitem__" f_Script_getitem
  f_Script_eq : Addr
  d_Script_eq : FuncData
  F_Script_eq : Fun K "__eq__" "Script.__eq__" s_Script_eq f_Script_eq d_Script_eq
  b_Script_eq : Binds K d_Script_eq P_Script_eq []
  M_Script_eq : Meth K C_Script "__eq__" f_Script_eq
  f_Script_add : Addr
  d_Script_add : FuncData
  F_Script_add : Fun K "__add__" "Script.__add__" s_Script_add f_Script_add d_Script_add
  b_Script_add : Binds K d_Script_add P_Script_add []
  M_Script_add : Meth K C_Script "__add__" f_Script_add
  f_Script_mul : Addr
  d_Script_mul : FuncData
  F_Script_mul : Fun K "__mul__" "Script.__mul__" s_Script_mul f_Script_mul d_Script_mul
  b_Script_mul : Binds K d_Script_mul P_Script_mul []
  M_Script_mul : Meth K C_Script "__mul__" f_Script_mul
  f_Script_without : Addr
  d_Script_without : FuncData
  F_Script_without : Fun K "without" "Script.without" s_Script_without f_Script_without d_Script_without
  b_Script_without : Binds K d_Script_without P_Script_without []
  M_Script_without : Meth K C_Script "without" f_Script_without
  L_File : ICls K C_File
  K_File : Mk K C_File f_File_init
  A_File_row : NoAttr K C_File "row"
  L_Step : ICls K C_Step
  K_Step : Mk0 K C_Step
  L_Full : ICls K C_Full
  K_Full : Mk0 K C_Full
  L_Keep : ICls K C_Keep
  K_Keep : Mk K C_Keep f_Keep_init
  A_Keep_wide : NoAttr K C_Keep "wide"
  L_Lean : ICls K C_Lean
  K_Lean : Mk K C_Lean f_Lean_init
  A_Lean_wide : NoAttr K C_Lean "wide"
  L_Dig : ICls K C_Dig
  K_Dig : Mk K C_Dig f_Dig_init
  A_Dig_wide : NoAttr K C_Dig "wide"
  L_Script : ICls K C_Script
  K_Script : Mk K C_Script f_Script_init
  A_Script_rows : NoAttr K C_Script "rows"
  ic_Dig : PySem.W.isClsIn K C_Dig = true
  tc_Dig : PySem.W.typeIn K (.ref C_Dig) = some (.type "type")
  ic_File : PySem.W.isClsIn K C_File = true
  tc_File : PySem.W.typeIn K (.ref C_File) = some (.type "type")
  ic_Full : PySem.W.isClsIn K C_Full = true
  tc_Full : PySem.W.typeIn K (.ref C_Full) = some (.type "type")
  ic_Keep : PySem.W.isClsIn K C_Keep = true
  tc_Keep : PySem.W.typeIn K (.ref C_Keep) = some (.type "type")
  ic_Lean : PySem.W.isClsIn K C_Lean = true
  tc_Lean : PySem.W.typeIn K (.ref C_Lean) = some (.type "type")
  ic_Script : PySem.W.isClsIn K C_Script = true
  tc_Script : PySem.W.typeIn K (.ref C_Script) = some (.type "type")
  ic_Step : PySem.W.isClsIn K C_Step = true
  tc_Step : PySem.W.typeIn K (.ref C_Step) = some (.type "type")
  ne_File : PySem.W.findIn K (.ref C_File) "__ne__" = some (some (.builtin "object.__ne__"))
  fi_File_getitem : PySem.W.fnIn K f_File_getitem = true
  ne_Full : PySem.W.findIn K (.ref C_Full) "__ne__" = some (some (.builtin "object.__ne__"))
  ne_Keep : PySem.W.findIn K (.ref C_Keep) "__ne__" = some (some (.builtin "object.__ne__"))
  ne_Lean : PySem.W.findIn K (.ref C_Lean) "__ne__" = some (some (.builtin "object.__ne__"))
  ne_Dig : PySem.W.findIn K (.ref C_Dig) "__ne__" = some (some (.builtin "object.__ne__"))
  ne_Script : PySem.W.findIn K (.ref C_Script) "__ne__" = some (some (.builtin "object.__ne__"))
  fi_Script_getitem : PySem.W.fnIn K f_Script_getitem = true
  sf_Script : PySem.W.selfFirst K C_Script = true
  is_Script : PySem.W.subIn K (.type "int") (.ref C_Script) = some false
  bo_Script_add : PySem.W.findIn K (.ref C_Script) (PySem.dunder (Operator.info .Add).2) = some (some (.ref f_Script_add))
  bo_Script_mul : PySem.W.findIn K (.ref C_Script) (PySem.dunder (Operator.info .Mult).2) = some (some (.ref f_Script_mul))
  rr_Script_mul : PySem.W.findIn K (.ref C_Script) (dunderR (Operator.info .Mult).2) = some none
  fo_Script_mul : Option Value
  ro_Script_mul : Option Value
  im_Script_mul : PySem.W.findIn K (.type "int") (PySem.dunder (Operator.info .Mult).2) = some fo_Script_mul
  ir_Script_mul : PySem.W.findIn K (.type "int") (dunderR (Operator.info .Mult).2) = some ro_Script_mul
  s_File_Dig : PySem.W.kitOne K (.ref C_File) (.ref C_Dig) = some false
  s_File_File : PySem.W.kitOne K (.ref C_File) (.ref C_File) = some true
  s_File_Full : PySem.W.kitOne K (.ref C_File) (.ref C_Full) = some false
  s_File_Keep : PySem.W.kitOne K (.ref C_File) (.ref C_Keep) = some false
  s_File_Lean : PySem.W.kitOne K (.ref C_File) (.ref C_Lean) = some false
  s_File_Script : PySem.W.kitOne K (.ref C_File) (.ref C_Script) = some false
  s_File_Step : PySem.W.kitOne K (.ref C_File) (.ref C_Step) = some false
  si_File_bool : PySem.W.subIn K (.ref C_File) (.type "bool") = some false
  si_File_int : PySem.W.subIn K (.ref C_File) (.type "int") = some false
  si_File_list : PySem.W.subIn K (.ref C_File) (.type "list") = some false
  si_File_str : PySem.W.subIn K (.ref C_File) (.type "str") = some false
  nf_Full_File : PySem.W.notFirst K C_Full (.ref C_File) = true
  nf_Keep_File : PySem.W.notFirst K C_Keep (.ref C_File) = true
  nf_Lean_File : PySem.W.notFirst K C_Lean (.ref C_File) = true
  nf_Dig_File : PySem.W.notFirst K C_Dig (.ref C_File) = true
  nf_Script_File : PySem.W.notFirst K C_Script (.ref C_File) = true
  s_Step_Dig : PySem.W.kitOne K (.ref C_Step) (.ref C_Dig) = some false
  s_Step_File : PySem.W.kitOne K (.ref C_Step) (.ref C_File) = some false
  s_Step_Full : PySem.W.kitOne K (.ref C_Step) (.ref C_Full) = some false
  s_Step_Keep : PySem.W.kitOne K (.ref C_Step) (.ref C_Keep) = some false
  s_Step_Lean : PySem.W.kitOne K (.ref C_Step) (.ref C_Lean) = some false
  s_Step_Script : PySem.W.kitOne K (.ref C_Step) (.ref C_Script) = some false
  s_Step_Step : PySem.W.kitOne K (.ref C_Step) (.ref C_Step) = some true
  si_Step_bool : PySem.W.subIn K (.ref C_Step) (.type "bool") = some false
  si_Step_int : PySem.W.subIn K (.ref C_Step) (.type "int") = some false
  si_Step_list : PySem.W.subIn K (.ref C_Step) (.type "list") = some false
  si_Step_str : PySem.W.subIn K (.ref C_Step) (.type "str") = some false
  nf_File_Step : PySem.W.notFirst K C_File (.ref C_Step) = true
  nf_Full_Step : PySem.W.notFirst K C_Full (.ref C_Step) = true
  nf_Keep_Step : PySem.W.notFirst K C_Keep (.ref C_Step) = true
  nf_Lean_Step : PySem.W.notFirst K C_Lean (.ref C_Step) = true
  nf_Dig_Step : PySem.W.notFirst K C_Dig (.ref C_Step) = true
  nf_Script_Step : PySem.W.notFirst K C_Script (.ref C_Step) = true
  s_Full_Dig : PySem.W.kitOne K (.ref C_Full) (.ref C_Dig) = some false
  s_Full_File : PySem.W.kitOne K (.ref C_Full) (.ref C_File) = some false
  s_Full_Full : PySem.W.kitOne K (.ref C_Full) (.ref C_Full) = some true
  s_Full_Keep : PySem.W.kitOne K (.ref C_Full) (.ref C_Keep) = some false
  s_Full_Lean : PySem.W.kitOne K (.ref C_Full) (.ref C_Lean) = some false
  s_Full_Script : PySem.W.kitOne K (.ref C_Full) (.ref C_Script) = some false
  s_Full_Step : PySem.W.kitOne K (.ref C_Full) (.ref C_Step) = some true
  si_Full_bool : PySem.W.subIn K (.ref C_Full) (.type "bool") = some false
  si_Full_int : PySem.W.subIn K (.ref C_Full) (.type "int") = some false
  si_Full_list : PySem.W.subIn K (.ref C_Full) (.type "list") = some false
  si_Full_str : PySem.W.subIn K (.ref C_Full) (.type "str") = some false
  nf_File_Full : PySem.W.notFirst K C_File (.ref C_Full) = true
  nf_Keep_Full : PySem.W.notFirst K C_Keep (.ref C_Full) = true
  nf_Lean_Full : PySem.W.notFirst K C_Lean (.ref C_Full) = true
  nf_Dig_Full : PySem.W.notFirst K C_Dig (.ref C_Full) = true
  nf_Script_Full : PySem.W.notFirst K C_Script (.ref C_Full) = true
  s_Keep_Dig : PySem.W.kitOne K (.ref C_Keep) (.ref C_Dig) = some false
  s_Keep_File : PySem.W.kitOne K (.ref C_Keep) (.ref C_File) = some false
  s_Keep_Full : PySem.W.kitOne K (.ref C_Keep) (.ref C_Full) = some false
  s_Keep_Keep : PySem.W.kitOne K (.ref C_Keep) (.ref C_Keep) = some true
  s_Keep_Lean : PySem.W.kitOne K (.ref C_Keep) (.ref C_Lean) = some false
  s_Keep_Script : PySem.W.kitOne K (.ref C_Keep) (.ref C_Script) = some false
  s_Keep_Step : PySem.W.kitOne K (.ref C_Keep) (.ref C_Step) = some true
  si_Keep_bool : PySem.W.subIn K (.ref C_Keep) (.type "bool") = some false
  si_Keep_int : PySem.W.subIn K (.ref C_Keep) (.type "int") = some false
  si_Keep_list : PySem.W.subIn K (.ref C_Keep) (.type "list") = some false
  si_Keep_str : PySem.W.subIn K (.ref C_Keep) (.type "str") = some false
  nf_File_Keep : PySem.W.notFirst K C_File (.ref C_Keep) = true
  nf_Full_Keep : PySem.W.notFirst K C_Full (.ref C_Keep) = true
  nf_Lean_Keep : PySem.W.notFirst K C_Lean (.ref C_Keep) = true
  nf_Dig_Keep : PySem.W.notFirst K C_Dig (.ref C_Keep) = true
  nf_Script_Keep : PySem.W.notFirst K C_Script (.ref C_Keep) = true
  s_Lean_Dig : PySem.W.kitOne K (.ref C_Lean) (.ref C_Dig) = some false
  s_Lean_File : PySem.W.kitOne K (.ref C_Lean) (.ref C_File) = some false
  s_Lean_Full : PySem.W.kitOne K (.ref C_Lean) (.ref C_Full) = some false
  s_Lean_Keep : PySem.W.kitOne K (.ref C_Lean) (.ref C_Keep) = some false
  s_Lean_Lean : PySem.W.kitOne K (.ref C_Lean) (.ref C_Lean) = some true
  s_Lean_Script : PySem.W.kitOne K (.ref C_Lean) (.ref C_Script) = some false
  s_Lean_Step : PySem.W.kitOne K (.ref C_Lean) (.ref C_Step) = some true
  si_Lean_bool : PySem.W.subIn K (.ref C_Lean) (.type "bool") = some false
  si_Lean_int : PySem.W.subIn K (.ref C_Lean) (.type "int") = some false
  si_Lean_list : PySem.W.subIn K (.ref C_Lean) (.type "list") = some false
  si_Lean_str : PySem.W.subIn K (.ref C_Lean) (.type "str") = some false
  nf_File_Lean : PySem.W.notFirst K C_File (.ref C_Lean) = true
  nf_Full_Lean : PySem.W.notFirst K C_Full (.ref C_Lean) = true
  nf_Keep_Lean : PySem.W.notFirst K C_Keep (.ref C_Lean) = true
  nf_Dig_Lean : PySem.W.notFirst K C_Dig (.ref C_Lean) = true
  nf_Script_Lean : PySem.W.notFirst K C_Script (.ref C_Lean) = true
  s_Dig_Dig : PySem.W.kitOne K (.ref C_Dig) (.ref C_Dig) = some true
  s_Dig_File : PySem.W.kitOne K (.ref C_Dig) (.ref C_File) = some false
  s_Dig_Full : PySem.W.kitOne K (.ref C_Dig) (.ref C_Full) = some false
  s_Dig_Keep : PySem.W.kitOne K (.ref C_Dig) (.ref C_Keep) = some false
  s_Dig_Lean : PySem.W.kitOne K (.ref C_Dig) (.ref C_Lean) = some false
  s_Dig_Script : PySem.W.kitOne K (.ref C_Dig) (.ref C_Script) = some false
  s_Dig_Step : PySem.W.kitOne K (.ref C_Dig) (.ref C_Step) = some true
  si_Dig_bool : PySem.W.subIn K (.ref C_Dig) (.type "bool") = some false
  si_Dig_int : PySem.W.subIn K (.ref C_Dig) (.type "int") = some false
  si_Dig_list : PySem.W.subIn K (.ref C_Dig) (.type "list") = some false
  si_Dig_str : PySem.W.subIn K (.ref C_Dig) (.type "str") = some false
  nf_File_Dig : PySem.W.notFirst K C_File (.ref C_Dig) = true
  nf_Full_Dig : PySem.W.notFirst K C_Full (.ref C_Dig) = true
  nf_Keep_Dig : PySem.W.notFirst K C_Keep (.ref C_Dig) = true
  nf_Lean_Dig : PySem.W.notFirst K C_Lean (.ref C_Dig) = true
  nf_Script_Dig : PySem.W.notFirst K C_Script (.ref C_Dig) = true
  s_Script_Dig : PySem.W.kitOne K (.ref C_Script) (.ref C_Dig) = some false
  s_Script_File : PySem.W.kitOne K (.ref C_Script) (.ref C_File) = some false
  s_Script_Full : PySem.W.kitOne K (.ref C_Script) (.ref C_Full) = some false
  s_Script_Keep : PySem.W.kitOne K (.ref C_Script) (.ref C_Keep) = some false
  s_Script_Lean : PySem.W.kitOne K (.ref C_Script) (.ref C_Lean) = some false
  s_Script_Script : PySem.W.kitOne K (.ref C_Script) (.ref C_Script) = some true
  s_Script_Step : PySem.W.kitOne K (.ref C_Script) (.ref C_Step) = some false
  si_Script_bool : PySem.W.subIn K (.ref C_Script) (.type "bool") = some false
  si_Script_int : PySem.W.subIn K (.ref C_Script) (.type "int") = some false
  si_Script_list : PySem.W.subIn K (.ref C_Script) (.type "list") = some false
  si_Script_str : PySem.W.subIn K (.ref C_Script) (.type "str") = some false
  nf_File_Script : PySem.W.notFirst K C_File (.ref C_Script) = true
  nf_Full_Script : PySem.W.notFirst K C_Full (.ref C_Script) = true
  nf_Keep_Script : PySem.W.notFirst K C_Keep (.ref C_Script) = true
  nf_Lean_Script : PySem.W.notFirst K C_Lean (.ref C_Script) = true
  nf_Dig_Script : PySem.W.notFirst K C_Dig (.ref C_Script) = true
  C_InvalidFile : Addr
  I_InvalidFile : Addr
  mc_InvalidFile : mg "InvalidFile" = some (.ref C_InvalidFile)
  S_InvalidFile : SupX PySem.Challenge.rw_keptholes_k24_refused_comparisons.prog K C_InvalidFile I_InvalidFile "value" "value"
  x_InvalidFile : XfC K C_InvalidFile
  e_InvalidFile_InvalidFile : PySem.W.exmOne K (.ref C_InvalidFile) (.ref C_InvalidFile) = some true
  C_InvalidNumber : Addr
  I_InvalidNumber : Addr
  mc_InvalidNumber : mg "InvalidNumber" = some (.ref C_InvalidNumber)
  S_InvalidNumber : SupX PySem.Challenge.rw_keptholes_k24_refused_comparisons.prog K C_InvalidNumber I_InvalidNumber "value" "value"
  x_InvalidNumber : XfC K C_InvalidNumber
  e_InvalidNumber_InvalidNumber : PySem.W.exmOne K (.ref C_InvalidNumber) (.ref C_InvalidNumber) = some true
  C_InvalidScript : Addr
  I_InvalidScript : Addr
  mc_InvalidScript : mg "InvalidScript" = some (.ref C_InvalidScript)
  S_InvalidScript : SupX PySem.Challenge.rw_keptholes_k24_refused_comparisons.prog K C_InvalidScript I_InvalidScript "value" "value"
  x_InvalidScript : XfC K C_InvalidScript
  e_InvalidScript_InvalidScript : PySem.W.exmOne K (.ref C_InvalidScript) (.ref C_InvalidScript) = some true
  e_InvalidFile_InvalidNumber : PySem.W.exmOne K (.ref C_InvalidFile) (.ref C_InvalidNumber) = some false
  e_InvalidFile_InvalidScript : PySem.W.exmOne K (.ref C_InvalidFile) (.ref C_InvalidScript) = some false
  e_InvalidNumber_InvalidFile : PySem.W.exmOne K (.ref C_InvalidNumber) (.ref C_InvalidFile) = some false
  e_InvalidNumber_InvalidScript : PySem.W.exmOne K (.ref C_InvalidNumber) (.ref C_InvalidScript) = some false
  e_InvalidScript_InvalidFile : PySem.W.exmOne K (.ref C_InvalidScript) (.ref C_InvalidFile) = some false
  e_InvalidScript_InvalidNumber : PySem.W.exmOne K (.ref C_InvalidScript) (.ref C_InvalidNumber) = some false
end Kh

set_option Elab.async false
set_option linter.all false
set_option maxRecDepth 100000
set_option maxHeartbeats 4000000
namespace Kh
open PySem PySem.Spec L2
def prR : OK → Bool
  | .file => true
  | .full => true
  | .keep => true
  | .lean => true
  | .dig => true
  | .script => true
def su_Script : OK → Option Bool
  | .file => some false
  | .full => some false
  | .keep => some false
  | .lean => some false
  | .dig => some false
  | .script => some true

def m_law_draw (a_purse : (List Int)) (a_many : Int) : Res (Int × (List Int)) :=
  (pix a_purse (0 : Int)).bind fun z1 => cond (decide ((0 : Int) < z1)) ((pix a_purse (0 : Int)).bind fun z2 => (pmod z2 a_many).bind fun z3 => (pix a_purse (0 : Int)).bind fun z4 => (pdiv z4 a_many).bind fun z5 => (pset a_purse (0 : Int) z5).bind fun z6 => Res.ok (z3, z6)) ((pix a_purse (2 : Int)).bind fun z10 => (pset a_purse (2 : Int) (z10 + (1 : Int))).bind fun z11 => (pix z11 (1 : Int)).bind fun z12 => (pix z11 (2 : Int)).bind fun z13 => (pmul ((((z12 * (48271 : Int)) + (z13 * (1299709 : Int))) + (907 : Int)) % (2147483629 : Int)) ((((z12 * (48271 : Int)) + (z13 * (1299709 : Int))) + (907 : Int)) % (2147483629 : Int))).bind fun z14 => (pix z11 (2 : Int)).bind fun z15 => (pmul ((z14 + z15) % (2147483587 : Int)) ((z14 + z15) % (2147483587 : Int))).bind fun z16 => (pmod (((z16 + (69621 : Int)) % (2147483563 : Int)) / (64 : Int)) a_many).bind fun z17 => Res.ok (z17, z11))

def m_law_steps (a_purse : (List Int)) (a_sizes : (List Int)) (a_most : Int) : Res ((List (Str × Int)) × (List Int)) :=
  (m_law_draw a_purse (a_most + (1 : Int))).bind fun z2 => (guard (small62 z2.1) ()).bind fun _ => (foldR (fun (s3 : ((List (Str × Int)) × (List Int))) x4 => (m_law_draw s3.2 (6 : Int)).bind fun z7 => (pix ([("keep" : Str), ("keep" : Str), ("dig" : Str), ("dig" : Str), ("lean" : Str), ("full" : Str)] : List Str) z7.1).bind fun z8 => (m_law_draw z7.2 (a_sizes.length : Int)).bind fun z10 => (pix a_sizes z10.1).bind fun z11 => (papp s3.1 (z8, z11)).bind fun z9 => Res.ok (z9, z10.2)) (rangeL 0 (Int.toNat z2.1)) (([] : List (Str × Int)), z2.2)).bind fun s3 => Res.ok (s3.1, s3.2)

def m_law_purse (a_script : (List Int)) (a_at : Int) : Res (List Int) :=
  (pmod ((cutD a_script (some a_at) (some (a_at + (1 : Int)))).sum) (((10 : Int) ^ Int.toNat (60 : Int)) ^ Int.toNat (10 : Int))).bind fun z1 => (pmul (if (decide (((10 : Int) ^ Int.toNat (18 : Int)) ≤ ((cutD a_script (some a_at) (some (a_at + (1 : Int)))).sum))) then 1 else 0 : Int) z1).bind fun z2 => Res.ok ([z2, (((cutD a_script (some a_at) (some (a_at + (1 : Int)))).sum) % (2147483629 : Int)), ((1000 : Int) * a_at)] : List Int)

inductive StepT where
  | full
  | keep (n : Int)
  | lean (n : Int)
  | dig (n : Int)
  deriving DecidableEq
def stepA : StepT → Any
  | .full => .obj .full []
  | .keep n => .obj .keep [.int n]
  | .lean n => .obj .lean [.int n]
  | .dig n => .obj .dig [.int n]
def is_Dig : StepT → Bool
  | .full => false
  | .keep _ => false
  | .lean _ => false
  | .dig _ => true
def is_Full : StepT → Bool
  | .full => true
  | .keep _ => false
  | .lean _ => false
  | .dig _ => false
def is_Keep : StepT → Bool
  | .full => false
  | .keep _ => true
  | .lean _ => false
  | .dig _ => false
def is_Lean : StepT → Bool
  | .full => false
  | .keep _ => false
  | .lean _ => true
  | .dig _ => false
def m_Step_wide : StepT → Res Int
  | .full => .bad
  | .keep n => .ok n
  | .lean n => .ok n
  | .dig n => .ok n

def m_is_whole (a_value : Int) : Res Bool :=
  (andR (Res.ok true) (Res.ok (!false))).bind fun z1 => Res.ok z1

def m_check_least (a_value : Int) (a_least : Int) : Res Unit :=
  (m_is_whole a_value).bind fun z1 => cond z1 (cond (decide (a_value < a_least)) (Res.err ⟨.number, (Any.int a_value)⟩) (Res.ok ())) (Res.err ⟨.number, (Any.int a_value)⟩)

def m_Keep_make (n : Int) : Res Int := (m_check_least n 1).bind fun _ => .ok n

def m_Lean_make (n : Int) : Res Int := (m_check_least n 1).bind fun _ => .ok n

def m_Dig_make (n : Int) : Res Int := (m_check_least n 1).bind fun _ => .ok n

def m_law_step (a_step : (Str × Int)) : Res StepT :=
  cond (decide (a_step.1 = ("full" : Str))) (Res.ok StepT.full) (cond (decide (a_step.1 = ("keep" : Str))) ((m_Keep_make a_step.2).bind fun z2 => Res.ok (StepT.keep z2)) (cond (decide (a_step.1 = ("lean" : Str))) ((m_Lean_make a_step.2).bind fun z4 => Res.ok (StepT.lean z4)) ((m_Dig_make a_step.2).bind fun z6 => Res.ok (StepT.dig z6))))

def m_are_steps (a_value : (List StepT)) : Res Bool :=
  (andR (Res.ok true) ((compR (β := StepT) (fun x1 => Res.ok none) a_value).bind fun l2 => Res.ok (l2.isEmpty))).bind fun z3 => Res.ok z3

def m_Script_make (o : Option (List StepT)) : Res (List StepT) := (m_are_steps (o.getD [])).bind fun b => guard (b = true) (o.getD [])

def m_law_script (a_steps : (List (Str × Int))) : Res (List StepT) :=
  (compR (β := StepT) (fun x1 => (m_law_step x1).bind fun z2 => Res.ok (some z2)) a_steps).bind fun l3 => (m_Script_make (some l3)).bind fun z4 => Res.ok z4

def m_are_cells (a_value : Str) : Res Bool :=
  (andR (Res.ok true) ((compR (β := Nat) (fun x1 => (pcat (".0" : Str) ("abcdefghijklmnopqrstuvwxyz" : Str)).bind fun z2 => cond (!decide (x1 ∈ signsL z2)) (Res.ok (some x1)) (Res.ok none)) (signsL a_value)).bind fun l3 => Res.ok (l3.isEmpty))).bind fun z4 => Res.ok z4

def m_File_make (z : Str) : Res Str := (m_are_cells z).bind fun b => cond b (.ok z) (.err ⟨.file, .str z⟩)

def m_check_script__v2 (a_value : Any) : Res Empty :=
  (pisO su_Script a_value).bind fun z1 => cond z1 (.bad) (Res.err ⟨.script, a_value⟩)

def m_check_two__v2 (a_one : Any) (a_other : Any) : Res Empty :=
  (m_check_script__v2 a_one).bind fun z1 => z1.elim

def m_alike__v2 (a_one : Any) (a_other : Any) : Res Empty :=
  (m_check_two__v2 a_one a_other).bind fun z1 => z1.elim

def m_parting__v2 (a_one : Any) (a_other : Any) : Res Empty :=
  (m_check_two__v2 a_one a_other).bind fun z1 => z1.elim

def m_never_more__v2 (a_one : Any) (a_other : Any) : Res Empty :=
  (m_check_two__v2 a_one a_other).bind fun z1 => z1.elim

def m_more_file__v2 (a_one : Any) (a_other : Any) : Res Empty :=
  (m_check_two__v2 a_one a_other).bind fun z1 => z1.elim

def m_exchangeable__v2 (a_one : Any) (a_other : Any) : Res Empty :=
  (m_check_two__v2 a_one a_other).bind fun z1 => z1.elim

def m_needless__v2 (a_script : Any) : Res Empty :=
  (m_check_script__v2 a_script).bind fun z1 => z1.elim

def m_keeps_holes__v2 (a_script : Any) : Res Empty :=
  (m_check_script__v2 a_script).bind fun z1 => z1.elim

def m_keeps_written__v2 (a_script : Any) : Res Empty :=
  (m_check_script__v2 a_script).bind fun z1 => z1.elim

def m_law_call__v2 (a_way : Int) (a_one : Any) (a_other : Any) : Res Empty :=
  cond (decide (a_way = (0 : Int))) ((m_alike__v2 a_one a_other)) (cond (decide (a_way = (1 : Int))) ((m_parting__v2 a_one a_other)) (cond (decide (a_way = (2 : Int))) ((m_never_more__v2 a_one a_other)) (cond (decide (a_way = (3 : Int))) ((m_more_file__v2 a_one a_other)) (cond (decide (a_way = (4 : Int))) ((m_exchangeable__v2 a_one a_other)) (cond (decide (a_way = (5 : Int))) ((m_needless__v2 a_one)) (cond (decide (a_way = (6 : Int))) ((m_keeps_holes__v2 a_one)) (cond (decide (a_way = (7 : Int))) ((m_keeps_written__v2 a_one)) (.bad))))))))

def m_law_told (a_way : Int) (a_one : Any) (a_other : Any) : Res (List Any) :=
  (Res.grab ((m_law_call__v2 a_way a_one a_other).bind fun z2 => z2.elim) fun e => match e with | ⟨.script, x3⟩ => Res.ok ([x3] : List Any) | ⟨.file, x3⟩ => Res.err ⟨.file, x3⟩ | ⟨.number, x3⟩ => Res.err ⟨.number, x3⟩ | _ => .bad).bind fun (s1 : (List Any)) => Res.ok s1

def m_check_script (a_value : (List StepT)) : Res Unit :=
  Res.ok ()

def m_check_two__v3 (a_one : (List StepT)) (a_other : Any) : Res Empty :=
  (m_check_script a_one).bind fun z1 => (m_check_script__v2 a_other).bind fun z2 => z2.elim

def m_alike__v3 (a_one : (List StepT)) (a_other : Any) : Res Empty :=
  (m_check_two__v3 a_one a_other).bind fun z1 => z1.elim

def m_parting__v3 (a_one : (List StepT)) (a_other : Any) : Res Empty :=
  (m_check_two__v3 a_one a_other).bind fun z1 => z1.elim

def m_never_more__v3 (a_one : (List StepT)) (a_other : Any) : Res Empty :=
  (m_check_two__v3 a_one a_other).bind fun z1 => z1.elim

def m_more_file__v3 (a_one : (List StepT)) (a_other : Any) : Res Empty :=
  (m_check_two__v3 a_one a_other).bind fun z1 => z1.elim

def m_exchangeable__v3 (a_one : (List StepT)) (a_other : Any) : Res Empty :=
  (m_check_two__v3 a_one a_other).bind fun z1 => z1.elim

def m_law_call__v3 (a_way : Int) (a_one : List StepT) (a_other : Any) : Res Empty :=
  cond (decide (a_way = (0 : Int))) ((m_alike__v3 a_one a_other)) (cond (decide (a_way = (1 : Int))) ((m_parting__v3 a_one a_other)) (cond (decide (a_way = (2 : Int))) ((m_never_more__v3 a_one a_other)) (cond (decide (a_way = (3 : Int))) ((m_more_file__v3 a_one a_other)) (cond (decide (a_way = (4 : Int))) ((m_exchangeable__v3 a_one a_other)) (.bad)))))

def m_law_told__v2 (a_way : Int) (a_one : (List StepT)) (a_other : Any) : Res (List Any) :=
  (Res.grab ((m_law_call__v3 a_way a_one a_other).bind fun z2 => z2.elim) fun e => match e with | ⟨.script, x3⟩ => Res.ok ([x3] : List Any) | ⟨.file, x3⟩ => Res.err ⟨.file, x3⟩ | ⟨.number, x3⟩ => Res.err ⟨.number, x3⟩ | _ => .bad).bind fun (s1 : (List Any)) => Res.ok s1

def m_check_two (a_one : (List StepT)) (a_other : (List StepT)) : Res Unit :=
  (m_check_script a_one).bind fun z1 => (m_check_script a_other).bind fun z2 => Res.ok ()

/-! divisor_of(one, other) -/
def m_divisor_of (a b : Int) : Res Int := guard (0 ≤ a ∧ 0 ≤ b) (Int.gcd a b : Int)

def m_multiple_of (a_numbers : (List Int)) : Res Int :=
  (foldR (fun (s1 : Int) x2 => (m_divisor_of s1 x2).bind fun z5 => (pdiv s1 z5).bind fun z6 => (pmul z6 x2).bind fun z7 => Res.ok z7) a_numbers (1 : Int)).bind fun s1 => Res.ok s1

def m_Keep_size (a_self : Int) : Res Int :=
  Res.ok a_self

def m_Lean_size (a_self : Int) : Res Int :=
  Res.ok a_self

def m_Dig_size (a_self : Int) : Res Int :=
  Res.ok a_self

def m_Step_size (s : StepT) : Res Int :=
  match s with
  | .full => .bad
  | .keep n => m_Keep_size n
  | .lean n => m_Lean_size n
  | .dig n => m_Dig_size n

def m_Script_period (a_self : (List StepT)) : Res Int :=
  (compR (β := Int) (fun x1 => cond (is_Full x1) (Res.ok none) ((m_Step_size x1).ne.bind fun z2 => Res.ok (some z2))) a_self).bind fun l3 => (m_multiple_of l3).bind fun z4 => Res.ok z4

def m_holds_in (a_one : (Int × Int)) (a_other : (Int × Int)) : Res Bool :=
  (andR (Res.ok (decide ((Builtin.bitAnd a_one.1 a_other.1) = a_one.1))) (Res.ok (decide ((Builtin.bitAnd a_one.2 a_other.2) = a_one.2)))).bind fun z1 => Res.ok z1

def m_is_held__v2 (a_rows : (List (Int × Int))) (a_other : (Int × Int)) : Res Bool :=
  (forR (ρ := Bool) (fun (s1 : Unit) x2 => (m_holds_in x2 a_other).bind fun z5 => cond z5 (Res.ok (Ctl.rt true)) (Res.ok (Ctl.nx ()))) a_rows ()).bind (Ctl.fin (fun s1 => Res.ok false) (fun r => Res.ok r))

def m_least_of (a_rows : (List (Int × Int))) : Res (List (Int × Int)) :=
  (psrt a_rows).bind fun z2 => (foldR (fun (s3 : (List (Int × Int))) x4 => ((m_is_held__v2 s3 x4).bind fun z8 => cond z8 (Res.ok s3) ((papp s3 x4).bind fun z9 => Res.ok z9)).bind fun (s7 : (List (Int × Int))) => Res.ok s7) z2 ([] : List (Int × Int))).bind fun s3 => Res.ok s3

def m_dug (a_rows : List (Int × Int)) (a_bits : List Int) : Res (List (Int × Int)) :=
  (compR (β := (Int × Int)) (fun x1 => cond (decide ((Builtin.bitAnd x1.2 (a_bits.sum)) = (0 : Int))) (Res.ok (some x1)) (Res.ok none)) a_rows).bind fun l => cond l.isEmpty (Res.ok a_rows) ((foldR (fun (s : List (Int × Int)) (x : Int × Int) => cond (!decide ((Builtin.bitAnd x.2 (a_bits.sum)) = (0 : Int))) (papp s (x.1, x.2)) ((compR (β := (Int × Int)) (fun (bit : Int) => Res.ok (some ((Builtin.bitOr x.1 bit), (Builtin.bitOr x.2 bit)))) a_bits).bind fun l2 => pcatL s l2)) a_rows ([] : List (Int × Int))).bind fun s => (m_least_of s).bind fun z => Res.ok z)

def m_behind_step (a_step : StepT) (a_table : (List (List (Int × Int)))) : Res (List (List (Int × Int))) :=
  cond (is_Full a_step) ((compR (β := (List (Int × Int))) (fun x1 => Res.ok (some ([((0 : Int), (0 : Int))] : List (Int × Int)))) a_table).bind fun l2 => Res.ok l2) ((m_Step_size a_step).ne.bind fun z4 => (guard (rng3ok (0 : Int) (a_table.length : Int) z4) ()).bind fun _ => (foldR (fun (s5 : (List (List (Int × Int)))) x6 => (m_Step_size a_step).ne.bind fun z9 => (guard (small62 x6 ∧ small62 (x6 + ((cutD a_table (some x6) (some (x6 + z9))).length : Int))) ()).bind fun _ => (compR (β := Int) (fun x10 => (pshl (1 : Int) x10).bind fun z11 => Res.ok (some z11)) (rangeL x6 (Int.toNat ((x6 + ((cutD a_table (some x6) (some (x6 + z9))).length : Int)) - x6)))).bind fun l12 => (cond (is_Keep a_step) ((pflat (cutD a_table (some x6) (some (x6 + z9)))).bind fun l14 => (m_least_of l14).bind fun z15 => (compR (β := (List (Int × Int))) (fun x16 => Res.ok (some z15)) (cutD a_table (some x6) (some (x6 + z9)))).bind fun l17 => (pcatL s5 l17).bind fun z18 => Res.ok z18) ((cond (is_Dig a_step) ((compR (β := (List (Int × Int))) (fun x23 => (m_dug x23 l12).bind fun z24 => Res.ok (some z24)) (cutD a_table (some x6) (some (x6 + z9)))).bind fun l25 => (pcatL s5 l25).bind fun z26 => Res.ok z26) ((compR (β := (List (Int × Int))) (fun x29 => (compR (β := (Int × Int)) (fun x30 => Res.ok (some (x30, x30))) l12).bind fun l31 => Res.ok (some l31)) (cutD a_table (some x6) (some (x6 + z9)))).bind fun l32 => (pcatL s5 l32).bind fun z33 => Res.ok z33)).bind fun (s22 : (List (List (Int × Int)))) => Res.ok s22)).bind fun (s13 : (List (List (Int × Int)))) => Res.ok s13) (rangeC (0 : Int) z4 (Int.toNat (((a_table.length : Int) - (0 : Int) + z4 - 1) / z4))) ([] : List (List (Int × Int)))).bind fun s5 => Res.ok s5)

def m_reason_table (a_script : (List StepT)) : Res (List (List (Int × Int))) :=
  (m_Script_period a_script).ne.bind fun z1 => (guard (small62 z1) ()).bind fun _ => (compR (β := (List (Int × Int))) (fun x2 => (pshl (1 : Int) x2).bind fun z3 => Res.ok (some ([(z3, (0 : Int))] : List (Int × Int)))) (rangeL 0 (Int.toNat z1))).bind fun l4 => (foldR (fun (s5 : (List (List (Int × Int)))) x6 => (m_behind_step x6 s5).bind fun z9 => Res.ok z9) a_script l4).bind fun s5 => Res.ok s5

def m_moved_table (a_script : (List StepT)) (a_length : Int) : Res (List (List (Int × Int))) :=
  (m_reason_table a_script).bind fun z1 => (guard (rng3ok (0 : Int) a_length (z1.length : Int)) ()).bind fun _ => (foldR (fun (s2 : (List (List (Int × Int)))) x3 => (compR (β := (List (Int × Int))) (fun x6 => (compR (β := (Int × Int)) (fun x7 => (pshl x7.1 x3).bind fun z8 => (pshl x7.2 x3).bind fun z9 => Res.ok (some (z8, z9))) x6).bind fun l10 => Res.ok (some l10)) z1).bind fun l11 => (pcatL s2 l11).bind fun z12 => Res.ok z12) (rangeC (0 : Int) (z1.length : Int) (Int.toNat ((a_length - (0 : Int) + (z1.length : Int) - 1) / (z1.length : Int)))) ([] : List (List (Int × Int)))).bind fun s2 => Res.ok s2

def m_is_held (a_rows : (List (Int × Int))) (a_other : (Int × Int)) : Res Bool :=
  (forR (ρ := Bool) (fun (s1 : Unit) x2 => (m_holds_in x2 a_other).bind fun z5 => cond z5 (Res.ok (Ctl.rt true)) (Res.ok (Ctl.nx ()))) a_rows ()).bind (Ctl.fin (fun s1 => Res.ok false) (fun r => Res.ok r))

def m_put_down (a_row : (Int × Int)) (a_cell : Int) (a_length : Int) : Res Str :=
  (guard (small62 a_length) ()).bind fun _ => (compR (β := Int) (fun x1 => (pshr a_row.1 x1).bind fun z2 => (pshr a_row.2 x1).bind fun z3 => Res.ok (some ((Builtin.bitAnd z2 (1 : Int)) + (Builtin.bitAnd z3 (1 : Int))))) (rangeL 0 (Int.toNat a_length))).bind fun l4 => (guard (small62 a_length) ()).bind fun _ => (compR (β := Int) (fun x5 => (orR ((pix l4 x5).bind fun z6 => Res.ok (decide ((0 : Int) < z6))) (Res.ok (decide (x5 = a_cell)))).bind fun t7 => cond t7 (Res.ok (some x5)) (Res.ok none)) (rangeL 0 (Int.toNat a_length))).bind fun l8 => (pmax l8).bind fun z9 => (compR (β := Nat) (fun x10 => (pixS (".0a" : Str) x10).bind fun z11 => Res.ok (some z11)) (cutD l4 none (some (z9 + (1 : Int))))).bind fun l12 => (pjoin ("" : Str) (l12.map chS)).bind fun z13 => (m_File_make z13).bind fun z14 => Res.ok z14

def m_more_of (a_one : (List StepT)) (a_other : (List StepT)) : Res (Option Str) :=
  (m_Script_period a_one).ne.bind fun z1 => (m_Script_period a_other).ne.bind fun z2 => (m_multiple_of ([z1, z2] : List Int)).bind fun z3 => (m_moved_table a_other z3).bind fun z4 => (m_moved_table a_one z3).bind fun z5 => (forR (ρ := (Option Str)) (fun (s6 : Unit) x7 => (forR (ρ := (Option Str)) (fun (s10 : Unit) x11 => (pix z4 x7.1).bind fun z14 => (m_is_held z14 x11).bind fun z15 => cond z15 (Res.ok (Ctl.nx ())) ((m_put_down x11 x7.1 z3).bind fun z16 => Res.ok (Ctl.rt (some z16)))) x7.2 ()).bind (Ctl.fin (fun s10 => Res.ok (Ctl.nx ())) (fun r => Res.ok (Ctl.rt r)))) (enumL z5) ()).bind (Ctl.fin (fun s6 => Res.ok none) (fun r => Res.ok r))

def m_parting_of (a_one : (List StepT)) (a_other : (List StepT)) : Res (Option Str) :=
  (m_more_of a_one a_other).bind fun z1 => (cond (z1.isNone) ((m_more_of a_other a_one).bind fun z2 => Res.ok z2) (Res.ok z1)).bind fun z3 => Res.ok z3

def m_alike (a_one : (List StepT)) (a_other : (List StepT)) : Res Bool :=
  (m_check_two a_one a_other).bind fun z1 => (m_parting_of a_one a_other).bind fun z2 => Res.ok (z2.isNone)

def m_parting (a_one : (List StepT)) (a_other : (List StepT)) : Res (Option Str) :=
  (m_check_two a_one a_other).bind fun z1 => (m_parting_of a_one a_other).bind fun z2 => Res.ok z2

def m_never_more (a_one : (List StepT)) (a_other : (List StepT)) : Res Bool :=
  (m_check_two a_one a_other).bind fun z1 => (m_more_of a_one a_other).bind fun z2 => Res.ok (z2.isNone)

def m_more_file (a_one : (List StepT)) (a_other : (List StepT)) : Res (Option Str) :=
  (m_check_two a_one a_other).bind fun z1 => (m_more_of a_one a_other).bind fun z2 => Res.ok z2

def m_Script_add (a_self : (List StepT)) (a_other : (List StepT)) : Res (List StepT) :=
  (pcatL a_self a_other).bind fun z1 => (m_Script_make (some z1)).bind fun z2 => Res.ok z2

def m_exchangeable (a_one : (List StepT)) (a_other : (List StepT)) : Res Bool :=
  (m_check_two a_one a_other).bind fun z1 => (m_Script_add a_one a_other).ne.bind fun z2 => (m_Script_add a_other a_one).ne.bind fun z3 => (m_parting_of z2 z3).bind fun z4 => Res.ok (z4.isNone)

def m_Script_len (a_self : (List StepT)) : Res Int :=
  Res.ok (a_self.length : Int)

def m_check_within (a_value : Int) (a_first : Int) (a_last : Int) : Res Unit :=
  (m_is_whole a_value).bind fun z1 => cond z1 ((cond (decide (a_first ≤ a_value)) (Res.ok (decide (a_value ≤ a_last))) (Res.ok false)).bind fun t3 => cond t3 (Res.ok ()) (Res.err ⟨.number, (Any.int a_value)⟩)) (Res.err ⟨.number, (Any.int a_value)⟩)

def m_Script_without (a_self : (List StepT)) (a_k : Int) : Res (List StepT) :=
  (m_check_within a_k (0 : Int) ((a_self.length : Int) - (1 : Int))).bind fun z1 => (pcatL (cutD a_self none (some a_k)) (cutD a_self (some (a_k + (1 : Int))) none)).bind fun z4 => (m_Script_make (some z4)).bind fun z5 => Res.ok z5

def m_needless (a_script : (List StepT)) : Res (List Int) :=
  (m_check_script a_script).bind fun z1 => (plenO (m_Script_len a_script)).bind fun z2 => (guard (small62 z2) ()).bind fun _ => (compR (β := Int) (fun x3 => (m_Script_without a_script x3).bind fun z4 => (m_parting_of a_script z4).bind fun z5 => cond (z5.isNone) (Res.ok (some x3)) (Res.ok none)) (rangeL 0 (Int.toNat z2))).bind fun l6 => Res.ok l6

def m_keeps_holes (a_script : (List StepT)) : Res Bool :=
  (m_check_script a_script).bind fun z1 => (m_Script_make none).bind fun z2 => (m_more_of a_script z2).bind fun z3 => Res.ok (z3.isNone)

def m_keeps_written (a_script : (List StepT)) : Res Bool :=
  (m_check_script a_script).bind fun z1 => (m_Script_make none).bind fun z2 => (m_more_of z2 a_script).bind fun z3 => Res.ok (z3.isNone)

def m_law_call (a_way : Int) (a_one : List StepT) (a_other : List StepT) : Res Any :=
  cond (decide (a_way = (0 : Int))) (((m_alike a_one a_other).bind fun z => Res.ok (Any.bl z))) (cond (decide (a_way = (1 : Int))) (((m_parting a_one a_other).bind fun z => Res.ok ((fun o => o.elim Any.non (fun z => Any.obj .file [.str z])) z))) (cond (decide (a_way = (2 : Int))) (((m_never_more a_one a_other).bind fun z => Res.ok (Any.bl z))) (cond (decide (a_way = (3 : Int))) (((m_more_file a_one a_other).bind fun z => Res.ok ((fun o => o.elim Any.non (fun z => Any.obj .file [.str z])) z))) (cond (decide (a_way = (4 : Int))) (((m_exchangeable a_one a_other).bind fun z => Res.ok (Any.bl z))) (cond (decide (a_way = (5 : Int))) (((m_needless a_one).bind fun z => Res.ok ((fun xs => Any.lst (xs.map Any.int)) z))) (cond (decide (a_way = (6 : Int))) (((m_keeps_holes a_one).bind fun z => Res.ok (Any.bl z))) (cond (decide (a_way = (7 : Int))) (((m_keeps_written a_one).bind fun z => Res.ok (Any.bl z))) (.bad))))))))

def m_law_told__v3 (a_way : Int) (a_one : (List StepT)) (a_other : (List StepT)) : Res (List Any) :=
  (Res.grab ((m_law_call a_way a_one a_other).bind fun z2 => Res.ok ([z2, (Any.int (0 : Int)), (Any.int (0 : Int))] : List Any)) fun e => match e with | ⟨.script, x4⟩ => Res.ok ([x4] : List Any) | ⟨.file, x4⟩ => Res.err ⟨.file, x4⟩ | ⟨.number, x4⟩ => Res.err ⟨.number, x4⟩ | _ => .bad).bind fun (s1 : (List Any)) => Res.ok s1

def m_law (a_script : (List Int)) : Res Bool :=
  (m_law_purse a_script (0 : Int)).bind fun z1 => (m_law_steps z1 ([(1 : Int), (2 : Int), (3 : Int)] : List Int) (3 : Int)).bind fun z3 => (m_law_script z3.1).bind fun z4 => (compR (β := StepT) (fun x5 => (m_law_step x5).bind fun z6 => Res.ok (some z6)) z3.1).bind fun l7 => Res.all fun q8 => Res.all fun q9 => Res.all fun q10 => Res.all fun q11 => (m_File_make ("" : Str)).bind fun z12 => Res.all fun q13 => (m_File_make ("a" : Str)).bind fun z14 => Res.all fun q15 => (m_Keep_make (2 : Int)).bind fun z16 => Res.all fun q17 => (forR (ρ := Bool) (fun (s18 : Unit) x19 => (forR (ρ := Bool) (fun (s22 : Unit) x23 => Res.all fun q26 => (forR (ρ := Bool) (fun (s27 : Unit) x28 => (m_law_told x23 x19 x28).bind fun z31 => ((peqA z31 ([x19] : List Any)).bind fun b => Res.ok !b).bind fun z32 => cond z32 (Res.ok (Ctl.rt false)) (Res.ok (Ctl.nx ()))) ([(Any.tag q26 ((fun xs => Any.obj .script [.tup (xs.map stepA)]) z4)), Any.non, (Any.int (5 : Int))] : List Any) ()).bind (Ctl.fin (fun s27 => Res.ok (Ctl.nx ())) (fun r => Res.ok (Ctl.rt r)))) (rangeL 0 (Int.toNat (8 : Int))) ()).bind (Ctl.fin (fun s22 => (forR (ρ := Bool) (fun (s39 : Unit) x40 => (m_law_told__v2 x40 z4 x19).bind fun z43 => ((peqA z43 ([x19] : List Any)).bind fun b => Res.ok !b).bind fun z44 => cond z44 (Res.ok (Ctl.rt false)) (Res.ok (Ctl.nx ()))) (rangeL 0 (Int.toNat (5 : Int))) ()).bind (Ctl.fin (fun s39 => Res.ok (Ctl.nx ())) (fun r => Res.ok (Ctl.rt r)))) (fun r => Res.ok (Ctl.rt r)))) ([Any.non, (Any.tag q8 (Any.lst (l7.map stepA))), (Any.int (0 : Int)), (Any.tag q9 ((fun _ => Any.obj .full []) ())), (Any.tup []), (Any.str ("full" : Str)), (Any.tag q10 .dic), (Any.tag q11 (Any.lst [((fun xs => Any.obj .script [.tup (xs.map stepA)]) z4)])), (Any.tag q13 ((fun z => Any.obj .file [.str z]) z12)), (Any.bl true), (Any.tag q15 ((fun z => Any.obj .file [.str z]) z14)), (Any.tag q17 ((fun n => Any.obj .keep [.int n]) z16))] : List Any) ()).bind (Ctl.fin (fun s18 => (compR (β := Int) (fun x51 => (m_law_told__v3 x51 z4 z4).bind fun z52 => ((peqA (cutD z52 (some (1 : Int)) none) ([(Any.int (0 : Int)), (Any.int (0 : Int))] : List Any)).bind fun b => Res.ok !b).bind fun z53 => cond z53 (Res.ok (some x51)) (Res.ok none)) (rangeL 0 (Int.toNat (8 : Int)))).bind fun l54 => Res.ok (l54.isEmpty)) (fun r => Res.ok r))
end Kh

set_option Elab.async false
set_option linter.all false
set_option maxRecDepth 100000
set_option maxHeartbeats 4000000
namespace Kh
open PySem PySem.Spec L2
open PySem.W (Frag)
abbrev PR : Program := PySem.Challenge.rw_keptholes_k24_refused_comparisons.prog
section
variable {w : World} {K : Frag} {mg : Str → Option Value} {base : Heap}
def clR (R : Prg K mg) : OK → Addr × List Str
  | .file => (R.C_File, ["row"])
  | .full => (R.C_Full, [])
  | .keep => (R.C_Keep, ["wide"])
  | .lean => (R.C_Lean, ["wide"])
  | .dig => (R.C_Dig, ["wide"])
  | .script => (R.C_Script, ["rows"])
theorem icR (R : Prg K mg) : ∀ k, prR k = true → ICls K (clR R k).1
  | .file, _ => R.L_File
  | .full, _ => R.L_Full
  | .keep, _ => R.L_Keep
  | .lean, _ => R.L_Lean
  | .dig, _ => R.L_Dig
  | .script, _ => R.L_Script
theorem suR_Script (R : Prg K mg) : ∀ k b, su_Script k = some b → ICls K (clR R k).1 ∧ PySem.W.kitOne K (.ref (clR R k).1) (.ref R.C_Script) = some b
  | .file, b, h => by cases h; exact ⟨R.L_File, R.s_File_Script⟩
  | .full, b, h => by cases h; exact ⟨R.L_Full, R.s_Full_Script⟩
  | .keep, b, h => by cases h; exact ⟨R.L_Keep, R.s_Keep_Script⟩
  | .lean, b, h => by cases h; exact ⟨R.L_Lean, R.s_Lean_Script⟩
  | .dig, b, h => by cases h; exact ⟨R.L_Dig, R.s_Dig_Script⟩
  | .script, b, h => by cases h; exact ⟨R.L_Script, R.s_Script_Script⟩
def exE (R : Prg K mg) : Er → Exn
  | ⟨.file, v⟩ => ⟨R.C_InvalidFile, ["value"], [anyD (clR R) v]⟩
  | ⟨.number, v⟩ => ⟨R.C_InvalidNumber, ["value"], [anyD (clR R) v]⟩
  | ⟨.script, v⟩ => ⟨R.C_InvalidScript, ["value"], [anyD (clR R) v]⟩
  | _ => ⟨0, [], []⟩
/-! plain words -/
/-- a whole number of at least so much -/
def chk (d : Dat) (l : Int) : Bool := match d with
  | .int i => decide (l ≤ i)
  | _ => false
theorem chk_int {d : Dat} {l : Int} (h : chk d l = true) : ∃ i, d = .int i ∧ l ≤ i := by
  cases d <;> first | exact ⟨_, rfl, of_decide_eq_true h⟩ | cases h
theorem ln {ds : List Dat} (h : Nat.ble ds.length 1000 = true := by rfl) : ds.length ≤ sizeLine := Nat.le_trans (Nat.le_of_ble_eq_true h) (by decide)
/-- the script: a list of at most 63 whole numbers -/
def spLaw : Spc := fun ds M P _ => ∃ ns : List Int, ns.length ≤ 63 ∧ ds = [.scr ns] ∧ M = [] ∧ P (.bl true) []
theorem law_sp {K : Frag} {H : Hp} {a : Addr} {ns : List Int} (hl : ns.length ≤ 63) (hS : SqL K H a (ns.map V.int)) : toSp K spLaw [.ref a] H (fun v _ => v = .bl true) fun _ _ _ => False := law_spS hS ⟨ns, hl, rfl, rfl, rfl⟩
theorem lnN {n : Nat} (h : Nat.ble n 1000 = true := by rfl) : n ≤ sizeLine := Nat.le_trans (Nat.le_of_ble_eq_true h) (by decide)
def S_law_draw (R : Prg K mg) : Spc := fun ds M P E => ∃ (P_purse : Addr) (a_purse : (List Int)) (a_many : Int), ds = [.raw (.ref P_purse), (.int a_many)] ∧ M = [(P_purse, .lst (a_purse.map Dat.int))] ∧ (m_law_draw a_purse a_many).Out (fun r => P (.int r.1) [(P_purse, .lst (r.2.map Dat.int))]) (fun _ => False)
theorem ok_law_draw (R : Prg K mg) : FnD PR w K mg base 1 R.f_law_draw R.d_law_draw P_law_draw (S_law_draw R) := by
  refine fn_d false R.F_law_draw sc_law_draw (fun h => nomatch h) (fun ds M P E ⟨_, _, _, e, _⟩ => by rw [e]; rfl) fun cdv A outer s H E hr ds M Pd PE h => ?_
  obtain ⟨P_purse, a_purse, a_many, rfl, rfl, h⟩ := h
  have hu := hr.units
  refine WS.ends ?_
  refine ws_if <| et_cmp <| ex_ix <| ex_var ⟨rfl, rfl⟩ <| ex_int <| r_ixC [] Dat.int (xs := a_purse) (ob h) fun z1 h => ex_int <| o_gt <| ⟨_, rfl, cif h (fun h => ?g9) (fun h => ?g22)⟩
  case g9 =>
    refine ws_set <| ex_bin <| ex_ix <| ex_var ⟨rfl, rfl⟩ <| ex_int <| r_ixC [] Dat.int (xs := a_purse) (ob h) fun z2 h => ex_var ⟨rfl, rfl⟩ <| r_mod (ob h) fun z3 h => ?_
    refine ws_asg <| ex_bin <| ex_ix <| ex_var ⟨rfl, rfl⟩ <| ex_int <| r_ixC [] Dat.int (xs := a_purse) (ob h) fun z4 h => ex_var ⟨rfl, rfl⟩ <| r_div (ob h) fun z5 h => gx_subT <| ex_var ⟨rfl, rfl⟩ <| ex_int <| r_set [] Dat.int (xs := a_purse) (x := z5) (ob h) fun z6 h => ?_
    exact ws_ret <| ex_var ⟨rfl, rfl⟩ <| (dN [] h)
  case g22 =>
    refine ws_nil ?_
    refine ws_asg <| ex_bin <| ex_ix <| ex_var ⟨rfl, rfl⟩ <| ex_int <| r_ixC [] Dat.int (xs := a_purse) (ob h) fun z10 h => ex_int <| o_add <| gx_subT <| ex_var ⟨rfl, rfl⟩ <| ex_int <| r_set [] Dat.int (xs := a_purse) (x := (z10 + (1 : Int))) (ob h) fun z11 h => ?_
    refine ws_set <| ex_bin <| ex_bin <| ex_bin <| ex_bin <| ex_ix <| ex_var ⟨rfl, rfl⟩ <| ex_int <| r_ixC [] Dat.int (xs := z11) (ob h) fun z12 h => ex_int <| o_mulS (.inr (by decide)) <| ex_bin <| ex_ix <| ex_var ⟨rfl, rfl⟩ <| ex_int <| r_ixC [] Dat.int (xs := z11) (ob h) fun z13 h => ex_int <| o_mulS (.inr (by decide)) <| o_add <| ex_int <| o_add <| ex_int <| o_mod (by decide) <| ?_
    refine ws_set <| ex_bin <| ex_bin <| ex_bin <| ex_var ⟨rfl, rfl⟩ <| ex_var ⟨rfl, rfl⟩ <| r_mul (ob h) fun z14 h => ex_ix <| ex_var ⟨rfl, rfl⟩ <| ex_int <| r_ixC [] Dat.int (xs := z11) (ob h) fun z15 h => o_add <| ex_int <| o_mod (by decide) <| ?_
    refine ws_set <| ex_bin <| ex_bin <| ex_bin <| ex_var ⟨rfl, rfl⟩ <| ex_var ⟨rfl, rfl⟩ <| r_mul (ob h) fun z16 h => ex_int <| o_add <| ex_int <| o_mod (by decide) <| ?_
    exact ws_ret <| ex_bin <| ex_bin <| ex_var ⟨rfl, rfl⟩ <| ex_int <| o_div ⟨by decide, by decide⟩ <| ex_var ⟨rfl, rfl⟩ <| r_mod (ob h) fun z17 h => (dN [] h)

def S_law_steps (R : Prg K mg) : Spc := fun ds M P E => ∃ (P_purse : Addr) (a_purse : (List Int)) (a_sizes : (List Int)) (a_most : Int), ds = [.raw (.ref P_purse), ((lstD Dat.int) a_sizes), (.int a_most)] ∧ M = [(P_purse, .lst (a_purse.map Dat.int))] ∧ (m_law_steps a_purse a_sizes a_most).Out (fun r => P ((lstD (pairD Dat.str Dat.int)) r.1) [(P_purse, .lst (r.2.map Dat.int))]) (fun _ => False)
theorem ok_law_steps (R : Prg K mg) : FnD PR w K mg base 2 R.f_law_steps R.d_law_steps P_law_steps (S_law_steps R) := by
  refine fn_d false R.F_law_steps sc_law_steps (fun h => nomatch h) (fun ds M P E ⟨_, _, _, _, e, _⟩ => by rw [e]; rfl) fun cdv A outer s H E hr ds M Pd PE h => ?_
  obtain ⟨P_purse, a_purse, a_sizes, a_most, rfl, rfl, h⟩ := h
  have hu := hr.units
  refine WS.ends ?_
  refine ws_set <| ex_lstC <| ea_nil ⟨ln, fun q1 _ => ?_⟩
  refine ws_forT <| ei_rng1 R.n_range <| ex_callA (ok_law_draw R) (hr.mono (by decide)) R.m_law_draw R.F_law_draw R.b_law_draw <| ea_cons <| ex_var ⟨rfl, rfl⟩ <| ea_cons <| ex_bin <| ex_var ⟨rfl, rfl⟩ <| ex_int <| o_add <| ea_nil <| apC [_] ⟨_, a_purse, (a_most + (1 : Int)), rfl, rfl, outC1 (ob h) (fun z2 h => ⟨z2.1, rfl, (gd (ob h)).1, have h := (gd (ob h)).2; foldT Dat.int (xs := (rangeL 0 (Int.toNat z2.1))) (fun (s3 : ((List (Str × Int)) × (List Int))) τ M' => ∃ d4 d5, [some (.raw (.ref P_purse)), some ((lstD Dat.int) a_sizes), some (.int a_most), some (.raw (.ref q1)), d4, d5] = τ ∧ (q1, .lst (s3.1.map (pairD Dat.str Dat.int))) :: (P_purse, .lst (s3.2.map Dat.int)) :: [] = M') (ob h) ⟨_, _, rfl, rfl⟩ (fun _ _ _ _ => trivial) ?g14 ?g15⟩) (fun _ h => h)⟩
  case g14 =>
    rintro x4 s3 _ _ N ⟨d4, d5, rfl, rfl⟩ h
    refine gx_name  <| ?_
    refine ws_set <| ex_ix <| ex_lst <| ea_cons <| ex_str <| ea_cons <| ex_str <| ea_cons <| ex_str <| ea_cons <| ex_str <| ea_cons <| ex_str <| ea_cons <| ex_str <| ea_nil ⟨ln, ex_callA (ok_law_draw R) (hr.mono (by decide)) R.m_law_draw R.F_law_draw R.b_law_draw <| ea_cons <| ex_var ⟨rfl, rfl⟩ <| ea_cons <| ex_int <| ea_nil <| apC [_] ⟨_, s3.2, (6 : Int), rfl, rfl, outC1 (ob h) (fun z7 h => r_ix Dat.str (xs := ([("keep" : Str), ("keep" : Str), ("dig" : Str), ("dig" : Str), ("lean" : Str), ("full" : Str)] : List Str)) (ob h) fun z8 h => ?_) (fun _ h => h)⟩⟩
    refine ws_expr <| r_app [] (pairD Dat.str Dat.int) (xs := s3.1) <| ex_var ⟨rfl, rfl⟩ ⟨rfl, rfl, ea_cons <| ex_tup <| ea_cons <| ex_var ⟨rfl, rfl⟩ <| ea_cons <| ex_ix <| ex_var ⟨rfl, rfl⟩ <| ex_callA (ok_law_draw R) (hr.mono (by decide)) R.m_law_draw R.F_law_draw R.b_law_draw <| ea_cons <| ex_var ⟨rfl, rfl⟩ <| ea_cons <| ex_callB R.n_len PyProof.Rows.Boot.«len» <| ea_cons <| ex_var ⟨rfl, rfl⟩ <| ea_nil <| c_lenT Dat.int (xs := a_sizes) <| ea_nil <| apC [_] ⟨_, z7.2, (a_sizes.length : Int), rfl, rfl, outC1 (ob h) (fun z10 h => r_ix Dat.int (xs := a_sizes) (ob h) fun z11 h => ea_nil ⟨ln, ea_nil <| b_app [] (pairD Dat.str Dat.int) (xs := s3.1) (x := (z8, z11)) (ob h) fun z9 h => ?_⟩) (fun _ h => h)⟩⟩
    exact ws_nil ⟨(z9, z10.2), ⟨_, _, rfl, rfl⟩, h⟩
  case g15 =>
    rintro s3 _ _ ⟨d4, d5, rfl, rfl⟩ h
    exact ws_ret <| ex_frz <| ex_var ⟨rfl, rfl⟩ ⟨_, _, _, rfl, (List.perm_middle (l₁ := [])), (dN [] h)⟩

def S_law_purse (R : Prg K mg) : Spc := fun ds M P E => ∃ (a_script : (List Int)) (a_at : Int), ds = [(.scr a_script), (.int a_at)] ∧ (m_law_purse a_script a_at).Out (fun r => ∀ q, P (.raw (.ref q)) ((q, .lst (r.map Dat.int)) :: M)) (fun x => E (exE R x) M)
theorem ok_law_purse (R : Prg K mg) : FnD PR w K mg base 1 R.f_law_purse R.d_law_purse P_law_purse (S_law_purse R) := by
  refine fn_d false R.F_law_purse sc_law_purse (fun h => nomatch h) (fun ds M P E ⟨_, _, e, _⟩ => by rw [e]; rfl) fun cdv A outer s H E hr ds M Pd PE h => ?_
  obtain ⟨a_script, a_at, rfl, h⟩ := h
  have hu := hr.units
  refine WS.ends ?_
  refine ws_set <| ex_callTy R.n_int PyProof.Rows.Boot.«int» <| ea_cons <| ex_callB R.n_sum PyProof.Rows.Boot.«sum» <| ea_cons <| ex_sl <| ex_var ⟨rfl, rfl⟩ <| ep_some <| ex_var ⟨rfl, rfl⟩ <| ⟨_, rfl, ep_some <| ex_bin <| ex_var ⟨rfl, rfl⟩ <| ex_int <| o_add <| ⟨_, rfl, l_scrT <| ea_nil <| c_sumT (ns := (cutD a_script (some a_at) (some (a_at + (1 : Int))))) <| ea_nil <| c_int_i <| ?_⟩⟩
  exact ws_ret <| ex_lstC <| ea_cons <| ex_bin <| ex_callTy R.n_int PyProof.Rows.Boot.«int» <| ea_cons <| ex_cmp <| ex_var ⟨rfl, rfl⟩ <| ex_bin <| ex_int <| ex_int <| o_powW (by decide +kernel) <| o_ge <| ea_nil <| c_int_b <| ex_bin <| ex_var ⟨rfl, rfl⟩ <| ex_bin <| ex_bin <| ex_int <| ex_int <| o_powW (by decide +kernel) <| ex_int <| o_powW (by decide +kernel) <| r_mod (ob h) fun z1 h => r_mul (ob h) fun z2 h => ea_cons <| ex_bin <| ex_var ⟨rfl, rfl⟩ <| ex_int <| o_mod (by decide) <| ea_cons <| ex_bin <| ex_int <| ex_var ⟨rfl, rfl⟩ <| o_mulS (.inl (by decide)) <| ea_nil ⟨ln, fun q _ => dN [] (h q)⟩

abbrev fileD (R : Prg K mg) (z : Str) : Dat := .obj R.C_File ["row"] [.str z]
abbrev fullD (R : Prg K mg) (_ : Unit) : Dat := .obj R.C_Full [] []
abbrev keepD (R : Prg K mg) (n : Int) : Dat := .obj R.C_Keep ["wide"] [.int n]
abbrev leanD (R : Prg K mg) (n : Int) : Dat := .obj R.C_Lean ["wide"] [.int n]
abbrev digD (R : Prg K mg) (n : Int) : Dat := .obj R.C_Dig ["wide"] [.int n]
abbrev stepD (R : Prg K mg) : StepT → Dat
  | .full => fullD R ()
  | .keep n => keepD R n
  | .lean n => leanD R n
  | .dig n => digD R n
theorem stepA_D (R : Prg K mg) (s : StepT) : anyD (clR R) (stepA s) = stepD R s := by
  cases s <;> simp [stepA, anyD, anyDL, stepD, clR]
theorem stepA_comp (R : Prg K mg) : anyD (clR R) ∘ stepA = stepD R := funext fun s => stepA_D R s
theorem isStep (R : Prg K mg) (s : StepT) : ∃ t, (∀ M, TyD K M (stepD R s) t) ∧ PySem.W.kitOne K t (.ref R.C_Step) = some true := by
  cases s with
  | full => exact ⟨_, fun M => .obj R.L_Full, R.s_Full_Step⟩
  | keep n => exact ⟨_, fun M => .obj R.L_Keep, R.s_Keep_Step⟩
  | lean n => exact ⟨_, fun M => .obj R.L_Lean, R.s_Lean_Step⟩
  | dig n => exact ⟨_, fun M => .obj R.L_Dig, R.s_Dig_Step⟩
theorem isin_Dig (R : Prg K mg) (s : StepT) : ∃ t, (∀ M, TyD K M (stepD R s) t) ∧ PySem.W.kitOne K t (.ref R.C_Dig) = some (is_Dig s) := by
  cases s with
  | full => exact ⟨_, fun M => .obj R.L_Full, R.s_Full_Dig⟩
  | keep n => exact ⟨_, fun M => .obj R.L_Keep, R.s_Keep_Dig⟩
  | lean n => exact ⟨_, fun M => .obj R.L_Lean, R.s_Lean_Dig⟩
  | dig n => exact ⟨_, fun M => .obj R.L_Dig, R.s_Dig_Dig⟩
theorem isin_Full (R : Prg K mg) (s : StepT) : ∃ t, (∀ M, TyD K M (stepD R s) t) ∧ PySem.W.kitOne K t (.ref R.C_Full) = some (is_Full s) := by
  cases s with
  | full => exact ⟨_, fun M => .obj R.L_Full, R.s_Full_Full⟩
  | keep n => exact ⟨_, fun M => .obj R.L_Keep, R.s_Keep_Full⟩
  | lean n => exact ⟨_, fun M => .obj R.L_Lean, R.s_Lean_Full⟩
  | dig n => exact ⟨_, fun M => .obj R.L_Dig, R.s_Dig_Full⟩
theorem isin_Keep (R : Prg K mg) (s : StepT) : ∃ t, (∀ M, TyD K M (stepD R s) t) ∧ PySem.W.kitOne K t (.ref R.C_Keep) = some (is_Keep s) := by
  cases s with
  | full => exact ⟨_, fun M => .obj R.L_Full, R.s_Full_Keep⟩
  | keep n => exact ⟨_, fun M => .obj R.L_Keep, R.s_Keep_Keep⟩
  | lean n => exact ⟨_, fun M => .obj R.L_Lean, R.s_Lean_Keep⟩
  | dig n => exact ⟨_, fun M => .obj R.L_Dig, R.s_Dig_Keep⟩
theorem isin_Lean (R : Prg K mg) (s : StepT) : ∃ t, (∀ M, TyD K M (stepD R s) t) ∧ PySem.W.kitOne K t (.ref R.C_Lean) = some (is_Lean s) := by
  cases s with
  | full => exact ⟨_, fun M => .obj R.L_Full, R.s_Full_Lean⟩
  | keep n => exact ⟨_, fun M => .obj R.L_Keep, R.s_Keep_Lean⟩
  | lean n => exact ⟨_, fun M => .obj R.L_Lean, R.s_Lean_Lean⟩
  | dig n => exact ⟨_, fun M => .obj R.L_Dig, R.s_Dig_Lean⟩
theorem wideD (R : Prg K mg) (t : StepT) {K2 : Frag} {M : Mem} {P : Dat → Prop} {Q : Int → Prop} {E1 : Er → Prop} (h : (m_Step_wide t).Out Q E1) (hk : ∀ n, Q n → P (.int n)) (hK : K2 = K := by rfl) : ∃ z, FldI K2 "wide" M (stepD R t) z ∧ P z := by
  subst hK
  cases t with
  | full => exact h.elim
  | keep n => exact ⟨_, ⟨_, R.L_Keep.cl, R.A_Keep_wide, .inl ⟨_, _, rfl, rfl, rfl⟩⟩, hk n h⟩
  | lean n => exact ⟨_, ⟨_, R.L_Lean.cl, R.A_Lean_wide, .inl ⟨_, _, rfl, rfl, rfl⟩⟩, hk n h⟩
  | dig n => exact ⟨_, ⟨_, R.L_Dig.cl, R.A_Dig_wide, .inl ⟨_, _, rfl, rfl, rfl⟩⟩, hk n h⟩
abbrev scriptD (R : Prg K mg) (xs : List StepT) : Dat := .obj R.C_Script ["rows"] [vtpD (stepD R) xs]

def S_is_whole (R : Prg K mg) : Spc := fun ds M P E => ∃ (a_value : Int), ds = [(.int a_value)] ∧ (m_is_whole a_value).Out (fun r => P (.bl r) M) (fun x => E (exE R x) M)
theorem ok_is_whole (R : Prg K mg) : FnD PR w K mg base 1 R.f_is_whole R.d_is_whole P_is_whole (S_is_whole R) := by
  refine fn_d false R.F_is_whole sc_is_whole (fun h => nomatch h) (fun ds M P E ⟨_, e, _⟩ => by rw [e]; rfl) fun cdv A outer s H E hr ds M Pd PE h => ?_
  obtain ⟨a_value, rfl, h⟩ := h
  have hu := hr.units
  refine WS.ends ?_
  exact ws_ret <| exJ Dat.bl (ob h) (fun h => exA h (fun _ h => ex_callB R.n_isinstance PyProof.Rows.Boot.«isinstance» <| ea_cons <| ex_var ⟨rfl, rfl⟩ <| ea_cons <| ex_gty R.n_int PyProof.Rows.Boot.«int» <| ea_nil <| c_isi (k := true) (.ty _) .int (by rfl) <| ⟨rfl, true, rfl, h⟩) (fun h => ex_and1 <| ex_not <| ex_callB R.n_isinstance PyProof.Rows.Boot.«isinstance» <| ea_cons <| ex_var ⟨rfl, rfl⟩ <| ea_cons <| ex_gty R.n_bool PyProof.Rows.Boot.«bool» <| ea_nil <| c_isi (k := false) (.ty _) .int (by rfl) <| ⟨_, rfl, ⟨rfl, (!false), rfl, h⟩⟩)) fun z1 h => (dN [] h)

def S_check_least (R : Prg K mg) : Spc := fun ds M P E => ∃ (a_value : Int) (a_least : Int), ds = [(.int a_value), (.int a_least)] ∧ (m_check_least a_value a_least).Out (fun r => P .non M) (fun x => E (exE R x) M)
theorem ok_check_least (R : Prg K mg) : FnD PR w K mg base 2 R.f_check_least R.d_check_least P_check_least (S_check_least R) := by
  refine fn_d false R.F_check_least sc_check_least (fun h => nomatch h) (fun ds M P E ⟨_, _, e, _⟩ => by rw [e]; rfl) fun cdv A outer s H E hr ds M Pd PE h => ?_
  obtain ⟨a_value, a_least, rfl, h⟩ := h
  have hu := hr.units
  refine WS.ends ?_
  refine ws_if <| et_w <| ew_or <| et_not <| et_val <| ex_callF (ok_is_whole R) (hr.mono (by decide)) R.m_is_whole R.F_is_whole R.b_is_whole <| ea_cons <| ex_var ⟨rfl, rfl⟩ <| ea_nil <| ⟨a_value, rfl, outU (ob h) (fun z1 h => ⟨_, rfl, cifN h (fun h => ew_or1 <| et_cmp <| ex_var ⟨rfl, rfl⟩ <| ex_var ⟨rfl, rfl⟩ <| o_lt <| ⟨_, rfl, cif h (fun h => ?g3) (fun h => ?g4)⟩) (fun h => ⟨fun _ => ?g2, fun z => nomatch z⟩)⟩) (fun _ h => dX [] h)⟩
  case g2 =>
    exact ws_raise rfl R.S_InvalidNumber R.mc_InvalidNumber R.n_super hr <| ex_asA <| ex_var ⟨rfl, rfl⟩ <| ⟨anyD (clR R) (Any.int a_value), (by first | rfl | (simp only [anyD, anyDL, anyDL_map, List.map_map]; done) | (simp only [anyD, anyDL, anyDL_map, List.map_map]; rfl) | (simp only [anyD, anyDL, anyDL_map, List.map_map, stepA_comp, stepA_D]; rfl) | (simp only [anyD, anyDL, anyDL_map, List.map_map, stepA_comp, stepA_D]; done)), (dX [] h)⟩
  case g3 =>
    exact ws_raise rfl R.S_InvalidNumber R.mc_InvalidNumber R.n_super hr <| ex_asA <| ex_var ⟨rfl, rfl⟩ <| ⟨anyD (clR R) (Any.int a_value), (by first | rfl | (simp only [anyD, anyDL, anyDL_map, List.map_map]; done) | (simp only [anyD, anyDL, anyDL_map, List.map_map]; rfl) | (simp only [anyD, anyDL, anyDL_map, List.map_map, stepA_comp, stepA_D]; rfl) | (simp only [anyD, anyDL, anyDL_map, List.map_map, stepA_comp, stepA_D]; done)), (dX [] h)⟩
  case g4 =>
    refine ws_nil ?_
    exact ws_nil (dN [] h)

def S_Keep_init (R : Prg K mg) : Spc := fun ds M P E => ∃ q dx n M0, ds = [.raw (.ref q), .int n] ∧ M = (q, .ins R.C_Keep dx []) :: M0 ∧ (m_Keep_make n).Out (fun r => P .non ((q, .ins R.C_Keep dx [("wide", .int r)]) :: M0)) (fun x => E (exE R x) M)
theorem ok_Keep_init (R : Prg K mg) : FnD PR w K mg base 3 R.f_Keep_init R.d_Keep_init P_Keep_init (S_Keep_init R) := by
  refine fn_d false R.F_Keep_init sc_Keep_init (fun h => nomatch h) (fun ds M P E ⟨_, _, _, _, e, _⟩ => by rw [e]; rfl) fun cdv A outer s H E hr ds M Pd PE h => ?_
  obtain ⟨q, dx, n, M0, rfl, rfl, h⟩ := h
  refine ws_expr <| ex_callF (ok_check_least R) (hr.mono (by decide)) R.m_check_least R.F_check_least R.b_check_least <| ea_cons <| ex_var ⟨rfl, rfl⟩ <| ea_cons <| ex_int <| ea_nil ⟨n, 1, rfl, outU (ob h) (fun _ h => ?_) (fun _ h => h)⟩
  exact ws_fld <| ex_var ⟨rfl, rfl⟩ <| ex_var ⟨rfl, rfl⟩ ⟨q, _, dx, [], rfl, List.mem_cons_self, R.L_Keep.cl, R.A_Keep_wide, by decide, ws_nil (by have h2 : Pd .non ((q, .ins R.C_Keep dx [("wide", .int n)]) :: M0) := h; show Pd .non _; simpa [putC, putD] using h2)⟩
theorem mk_Keep {R : Prg K mg} {q dx : Addr} {n : Int} {M : Mem} {P : PK'} {E : XKx} {E1 : Er → Prop} {Q : Int → Prop} (h : (m_Keep_make n).Out Q E1) (hk : ∀ r, Q r → P (keepD R r) M) (hx : ∀ x, E1 x → E (exE R x) ((q, .ins R.C_Keep dx []) :: M)) :
    AP (S_Keep_init R) [.raw (.ref q), .int n] ((q, .ins R.C_Keep dx []) :: M) (fun d M2 => d = .non ∧ MadeP P q M2) E :=
  ap_all ⟨q, dx, n, M, rfl, rfl, out_mono h (fun r hr => .mk ⟨rfl, made_ok (fs := [("wide", .int r)]) (hk r hr)⟩) fun x h => .mk (hx x h)⟩

def S_Lean_init (R : Prg K mg) : Spc := fun ds M P E => ∃ q dx n M0, ds = [.raw (.ref q), .int n] ∧ M = (q, .ins R.C_Lean dx []) :: M0 ∧ (m_Lean_make n).Out (fun r => P .non ((q, .ins R.C_Lean dx [("wide", .int r)]) :: M0)) (fun x => E (exE R x) M)
theorem ok_Lean_init (R : Prg K mg) : FnD PR w K mg base 3 R.f_Lean_init R.d_Lean_init P_Lean_init (S_Lean_init R) := by
  refine fn_d false R.F_Lean_init sc_Lean_init (fun h => nomatch h) (fun ds M P E ⟨_, _, _, _, e, _⟩ => by rw [e]; rfl) fun cdv A outer s H E hr ds M Pd PE h => ?_
  obtain ⟨q, dx, n, M0, rfl, rfl, h⟩ := h
  refine ws_expr <| ex_callF (ok_check_least R) (hr.mono (by decide)) R.m_check_least R.F_check_least R.b_check_least <| ea_cons <| ex_var ⟨rfl, rfl⟩ <| ea_cons <| ex_int <| ea_nil ⟨n, 1, rfl, outU (ob h) (fun _ h => ?_) (fun _ h => h)⟩
  exact ws_fld <| ex_var ⟨rfl, rfl⟩ <| ex_var ⟨rfl, rfl⟩ ⟨q, _, dx, [], rfl, List.mem_cons_self, R.L_Lean.cl, R.A_Lean_wide, by decide, ws_nil (by have h2 : Pd .non ((q, .ins R.C_Lean dx [("wide", .int n)]) :: M0) := h; show Pd .non _; simpa [putC, putD] using h2)⟩
theorem mk_Lean {R : Prg K mg} {q dx : Addr} {n : Int} {M : Mem} {P : PK'} {E : XKx} {E1 : Er → Prop} {Q : Int → Prop} (h : (m_Lean_make n).Out Q E1) (hk : ∀ r, Q r → P (leanD R r) M) (hx : ∀ x, E1 x → E (exE R x) ((q, .ins R.C_Lean dx []) :: M)) :
    AP (S_Lean_init R) [.raw (.ref q), .int n] ((q, .ins R.C_Lean dx []) :: M) (fun d M2 => d = .non ∧ MadeP P q M2) E :=
  ap_all ⟨q, dx, n, M, rfl, rfl, out_mono h (fun r hr => .mk ⟨rfl, made_ok (fs := [("wide", .int r)]) (hk r hr)⟩) fun x h => .mk (hx x h)⟩

def S_Dig_init (R : Prg K mg) : Spc := fun ds M P E => ∃ q dx n M0, ds = [.raw (.ref q), .int n] ∧ M = (q, .ins R.C_Dig dx []) :: M0 ∧ (m_Dig_make n).Out (fun r => P .non ((q, .ins R.C_Dig dx [("wide", .int r)]) :: M0)) (fun x => E (exE R x) M)
theorem ok_Dig_init (R : Prg K mg) : FnD PR w K mg base 3 R.f_Dig_init R.d_Dig_init P_Dig_init (S_Dig_init R) := by
  refine fn_d false R.F_Dig_init sc_Dig_init (fun h => nomatch h) (fun ds M P E ⟨_, _, _, _, e, _⟩ => by rw [e]; rfl) fun cdv A outer s H E hr ds M Pd PE h => ?_
  obtain ⟨q, dx, n, M0, rfl, rfl, h⟩ := h
  refine ws_expr <| ex_callF (ok_check_least R) (hr.mono (by decide)) R.m_check_least R.F_check_least R.b_check_least <| ea_cons <| ex_var ⟨rfl, rfl⟩ <| ea_cons <| ex_int <| ea_nil ⟨n, 1, rfl, outU (ob h) (fun _ h => ?_) (fun _ h => h)⟩
  exact ws_fld <| ex_var ⟨rfl, rfl⟩ <| ex_var ⟨rfl, rfl⟩ ⟨q, _, dx, [], rfl, List.mem_cons_self, R.L_Dig.cl, R.A_Dig_wide, by decide, ws_nil (by have h2 : Pd .non ((q, .ins R.C_Dig dx [("wide", .int n)]) :: M0) := h; show Pd .non _; simpa [putC, putD] using h2)⟩
theorem mk_Dig {R : Prg K mg} {q dx : Addr} {n : Int} {M : Mem} {P : PK'} {E : XKx} {E1 : Er → Prop} {Q : Int → Prop} (h : (m_Dig_make n).Out Q E1) (hk : ∀ r, Q r → P (digD R r) M) (hx : ∀ x, E1 x → E (exE R x) ((q, .ins R.C_Dig dx []) :: M)) :
    AP (S_Dig_init R) [.raw (.ref q), .int n] ((q, .ins R.C_Dig dx []) :: M) (fun d M2 => d = .non ∧ MadeP P q M2) E :=
  ap_all ⟨q, dx, n, M, rfl, rfl, out_mono h (fun r hr => .mk ⟨rfl, made_ok (fs := [("wide", .int r)]) (hk r hr)⟩) fun x h => .mk (hx x h)⟩

def S_law_step (R : Prg K mg) : Spc := fun ds M P E => ∃ (a_step : (Str × Int)), ds = [((pairD Dat.str Dat.int) a_step)] ∧ (m_law_step a_step).Out (fun r => P ((stepD R) r) M) (fun x => E (exE R x) M)
theorem ok_law_step (R : Prg K mg) : FnD PR w K mg base 5 R.f_law_step R.d_law_step P_law_step (S_law_step R) := by
  refine fn_d false R.F_law_step sc_law_step (fun h => nomatch h) (fun ds M P E ⟨_, e, _⟩ => by rw [e]; rfl) fun cdv A outer s H E hr ds M Pd PE h => ?_
  obtain ⟨a_step, rfl, h⟩ := h
  have hu := hr.units
  refine WS.ends ?_
  refine ws_if <| et_cmp <| ex_ix <| ex_var ⟨rfl, rfl⟩ <| ex_int <| i_tup rfl <| ex_str <| o_eqT <| ⟨_, rfl, cif h (fun h => ?g1) (fun h => ?g9)⟩
  case g1 =>
    exact ws_ret <| ex_new0 R.K_Full R.mc_Full fun q dx _ _ _ => made_ok (fs := []) <| (dN [] h)
  case g9 =>
    refine ws_nil ?_
    refine ws_if <| et_cmp <| ex_ix <| ex_var ⟨rfl, rfl⟩ <| ex_int <| i_tup rfl <| ex_str <| o_eqT <| ⟨_, rfl, cif h (fun h => ?g3) (fun h => ?g8)⟩
    case g3 =>
      exact ws_ret <| ex_make R.K_Keep (ok_Keep_init R) (hr.mono (by decide)) R.mc_Keep R.b_Keep_init .nil (fun _ => .nil) <| ea_cons <| ex_ix <| ex_var ⟨rfl, rfl⟩ <| ex_int <| i_tup rfl <| ea_nil <| fun q dx _ _ _ => mk_Keep (ob h) (fun z2 h => (dN [] h)) (fun _ h => dX [_] h)
    case g8 =>
      refine ws_nil ?_
      refine ws_if <| et_cmp <| ex_ix <| ex_var ⟨rfl, rfl⟩ <| ex_int <| i_tup rfl <| ex_str <| o_eqT <| ⟨_, rfl, cif h (fun h => ?g5) (fun h => ?g7)⟩
      case g5 =>
        exact ws_ret <| ex_make R.K_Lean (ok_Lean_init R) (hr.mono (by decide)) R.mc_Lean R.b_Lean_init .nil (fun _ => .nil) <| ea_cons <| ex_ix <| ex_var ⟨rfl, rfl⟩ <| ex_int <| i_tup rfl <| ea_nil <| fun q dx _ _ _ => mk_Lean (ob h) (fun z4 h => (dN [] h)) (fun _ h => dX [_] h)
      case g7 =>
        refine ws_nil ?_
        exact ws_ret <| ex_make R.K_Dig (ok_Dig_init R) (hr.mono (by decide)) R.mc_Dig R.b_Dig_init .nil (fun _ => .nil) <| ea_cons <| ex_ix <| ex_var ⟨rfl, rfl⟩ <| ex_int <| i_tup rfl <| ea_nil <| fun q dx _ _ _ => mk_Dig (ob h) (fun z6 h => (dN [] h)) (fun _ h => dX [_] h)

def S_are_steps (R : Prg K mg) : Spc := fun ds M P E => ∃ (a_value : (List StepT)), ds = [((lstD (stepD R)) a_value)] ∧ (m_are_steps a_value).Out (fun r => P (.bl r) M) (fun x => E (exE R x) M)
theorem ok_are_steps (R : Prg K mg) : FnD PR w K mg base 1 R.f_are_steps R.d_are_steps P_are_steps (S_are_steps R) := by
  refine fn_d false R.F_are_steps sc_are_steps (fun h => nomatch h) (fun ds M P E ⟨_, e, _⟩ => by rw [e]; rfl) fun cdv A outer s H E hr ds M Pd PE h => ?_
  obtain ⟨a_value, rfl, h⟩ := h
  have hu := hr.units
  refine WS.ends ?_
  exact ws_ret <| exJ Dat.bl (ob h) (fun h => exA h (fun _ h => ex_callB R.n_isinstance PyProof.Rows.Boot.«isinstance» <| ea_cons <| ex_var ⟨rfl, rfl⟩ <| ea_cons <| ex_gty R.n_list PyProof.Rows.Boot.«list» <| ea_nil <| c_isi (k := true) (.ty _) .lst (by rfl) <| ⟨rfl, true, rfl, h⟩) (fun h => ex_and1 <| ex_cmp <| ex_lcT [("step", 1)] <| ei_list <| ex_var ⟨rfl, rfl⟩ <| ⟨_, rfl, compT (stepD R) (stepD R) (xs := a_value) (ob h) trivial (fun x1 _ h s H C cl fp => gc_name  <| fun s H C cl fp => ef_one <| et_not <| et_val <| ex_callB R.n_isinstance PyProof.Rows.Boot.«isinstance» <| ea_cons <| ex_var ⟨rfl, rfl⟩ <| ea_cons <| ex_gref R.mc_Step <| ea_nil <| c_isx (.own _) (isStep R x1) <| ⟨_, rfl, (fun z => absurd z (by decide)), fun _ => ⟨rfl, h⟩⟩) (fun l2 h => ex_lst <| ea_nil ⟨ln, r_eqNilT (stepD R) hu <| ⟨rfl, (l2.isEmpty), rfl, h⟩⟩)⟩)) fun z3 h => (dN [] h)

def S_Script_init (R : Prg K mg) : Spc := fun ds M P E => ∃ q dx o M0, ds = [.raw (.ref q), optD (lstD (stepD R)) o] ∧ M = (q, .ins R.C_Script dx []) :: M0 ∧ (m_Script_make o).Out (fun r => P .non ((q, .ins R.C_Script dx [("rows", vtpD (stepD R) r)]) :: M0)) (fun x => E (exE R x) M)
theorem ok_Script_init (R : Prg K mg) : FnD PR w K mg base 2 R.f_Script_init R.d_Script_init P_Script_init (S_Script_init R) := by
  refine fn_dV false R.F_Script_init sc_Script_init (fun h => nomatch h) (fun ds M P E ⟨_, _, _, _, e, _⟩ => by rw [e]; rfl) fun cdv A outer s H E hr ds M Pd PE h => ?_
  obtain ⟨q, dx, o, M0, rfl, rfl, h⟩ := h
  have h2 : WS (cxOf (L2.CX PR w) PR w K mg base N_Script_init "Script.__init__" (defScope s_Script_init) R.f_Script_init cdv A outer s H E) false (defBody s_Script_init).tail [some (.raw (.ref q)), some (optD (lstD (stepD R)) o), some (lstD (stepD R) (o.getD []))] ((q, .ins R.C_Script dx []) :: M0) (retR Pd PE) := by
    refine ws_if <| et_not <| et_val <| ex_callF (ok_are_steps R) (hr.mono (by decide)) R.m_are_steps R.F_are_steps R.b_are_steps <| ea_cons <| ex_var ⟨rfl, rfl⟩ <| ea_nil ⟨o.getD [], rfl, outU (ob h) (fun b h => ⟨_, rfl, (fun e => ?g2), fun e => ?g1⟩) (fun _ h => h)⟩
    case g1 =>
      refine ws_nil ?_
      exact ws_fld <| ex_callTy R.n_tuple PyProof.Rows.Boot.«tuple» <| ea_cons <| ex_var ⟨rfl, rfl⟩ <| ea_nil <| c_tupT (stepD R) (xs := o.getD []) <| ex_var ⟨rfl, rfl⟩ ⟨q, _, dx, [], rfl, List.mem_cons_self, R.L_Script.cl, R.A_Script_rows, by decide, ws_nil (show Pd .non _ from by simpa [putC, putD] using (gd h).2)⟩
    case g2 => exact absurd (gd h).1 (by simpa using e)
  cases o with
  | none => exact ws_set <| ex_if <| et_cmp <| ex_var ⟨rfl, rfl⟩ <| ex_non <| o_isN (fun u => by simp) ⟨true, rfl, (fun _ => ex_lst <| ea_nil ⟨ln, h2⟩), fun z => nomatch z⟩
  | some xs => exact ws_set <| ex_if <| et_cmp <| ex_var ⟨rfl, rfl⟩ <| ex_non <| o_isN (fun u => by simp [optD]) ⟨false, rfl, (fun z => nomatch z), fun _ => ex_var ⟨rfl, rfl⟩ h2⟩
theorem mk_Script {R : Prg K mg} {q dx : Addr} {o : Option (List StepT)} {M : Mem} {P : PK'} {E : XKx} {E1 : Er → Prop} {Q : List StepT → Prop} (h : (m_Script_make o).Out Q E1) (hk : ∀ r, Q r → P (scriptD R r) M) (hx : ∀ x, E1 x → E (exE R x) ((q, .ins R.C_Script dx []) :: M)) :
    AP (S_Script_init R) [.raw (.ref q), optD (lstD (stepD R)) o] ((q, .ins R.C_Script dx []) :: M) (fun d M2 => d = .non ∧ MadeP P q M2) E :=
  ap_all ⟨q, dx, o, M, rfl, rfl, out_mono h (fun r hr => .mk ⟨rfl, made_ok (fs := [("rows", vtpD (stepD R) r)]) (hk r hr)⟩) fun x h => .mk (hx x h)⟩

def S_law_script (R : Prg K mg) : Spc := fun ds M P E => ∃ (a_steps : (List (Str × Int))), ds = [((lstD (pairD Dat.str Dat.int)) a_steps)] ∧ (m_law_script a_steps).Out (fun r => P ((scriptD R) r) M) (fun x => E (exE R x) M)
theorem ok_law_script (R : Prg K mg) : FnD PR w K mg base 6 R.f_law_script R.d_law_script P_law_script (S_law_script R) := by
  refine fn_d false R.F_law_script sc_law_script (fun h => nomatch h) (fun ds M P E ⟨_, e, _⟩ => by rw [e]; rfl) fun cdv A outer s H E hr ds M Pd PE h => ?_
  obtain ⟨a_steps, rfl, h⟩ := h
  have hu := hr.units
  refine WS.ends ?_
  exact ws_ret <| ex_make R.K_Script (ok_Script_init R) (hr.mono (by decide)) R.mc_Script R.b_Script_init .nil (fun _ => .nil) <| ea_cons <| ex_lcT [("step", 1)] <| ei_list <| ex_var ⟨rfl, rfl⟩ <| ⟨_, rfl, compT (pairD Dat.str Dat.int) (stepD R) (xs := a_steps) (ob h) trivial (fun x1 _ h s H C cl fp => gc_name  <| fun s H C cl fp => ef_nil ⟨fun _ s H C cl fp => ex_callF (ok_law_step R) (hr.mono (by decide)) R.m_law_step R.F_law_step R.b_law_step <| ea_cons <| ex_var ⟨rfl, rfl⟩ <| ea_nil <| ⟨x1, rfl, outU (ob h) (fun z2 h => ⟨rfl, z2, rfl, h⟩) (fun _ h => h)⟩, fun z => nomatch z⟩) (fun l3 h => ea_nil <| fun q dx _ _ _ => mk_Script (ob h) (fun z4 h => (dN [] h)) (fun _ h => dX [_] h))⟩

def S_are_cells (R : Prg K mg) : Spc := fun ds M P E => ∃ (a_value : Str), ds = [(.str a_value)] ∧ (m_are_cells a_value).Out (fun r => P (.bl r) M) (fun x => E (exE R x) M)
theorem ok_are_cells (R : Prg K mg) : FnD PR w K mg base 1 R.f_are_cells R.d_are_cells P_are_cells (S_are_cells R) := by
  refine fn_d false R.F_are_cells sc_are_cells (fun h => nomatch h) (fun ds M P E ⟨_, e, _⟩ => by rw [e]; rfl) fun cdv A outer s H E hr ds M Pd PE h => ?_
  obtain ⟨a_value, rfl, h⟩ := h
  have hu := hr.units
  refine WS.ends ?_
  exact ws_ret <| exJ Dat.bl (ob h) (fun h => exA h (fun _ h => ex_callB R.n_isinstance PyProof.Rows.Boot.«isinstance» <| ea_cons <| ex_var ⟨rfl, rfl⟩ <| ea_cons <| ex_gty R.n_str PyProof.Rows.Boot.«str» <| ea_nil <| c_isi (k := true) (.ty _) .str (by rfl) <| ⟨rfl, true, rfl, h⟩) (fun h => ex_and1 <| ex_cmp <| ex_lcT [("cell", 1)] <| ei_str <| ex_var ⟨rfl, rfl⟩ <| ⟨a_value, rfl, compT chD chD (xs := (signsL a_value)) (ob h) trivial (fun x1 _ h s H C cl fp => gc_name  <| fun s H C cl fp => ef_one <| et_cmp <| ex_var ⟨rfl, rfl⟩ <| ex_bin <| ex_str <| ex_gstr R.g_SIGNS <| r_cat (ob h) fun z2 h => o_notInS <| ⟨_, rfl, cif h (fun h => fun s H C cl fp => ex_var ⟨rfl, rfl⟩ <| ⟨rfl, x1, rfl, h⟩) (fun h => ⟨rfl, h⟩)⟩) (fun l3 h => ex_lst <| ea_nil ⟨ln, r_eqNilT chD hu <| ⟨rfl, (l3.isEmpty), rfl, h⟩⟩)⟩)) fun z4 h => (dN [] h)

def S_File_init (R : Prg K mg) : Spc := fun ds M P E => ∃ q dx z M0, ds = [.raw (.ref q), .str z] ∧ M = (q, .ins R.C_File dx []) :: M0 ∧ (m_File_make z).Out (fun r => P .non ((q, .ins R.C_File dx [("row", .str r)]) :: M0)) (fun x => E (exE R x) M)
theorem ok_File_init (R : Prg K mg) : FnD PR w K mg base 2 R.f_File_init R.d_File_init P_File_init (S_File_init R) := by
  refine fn_dV false R.F_File_init sc_File_init (fun h => nomatch h) (fun ds M P E ⟨_, _, _, _, e, _⟩ => by rw [e]; rfl) fun cdv A outer s H E hr ds M Pd PE h => ?_
  obtain ⟨q, dx, z, M0, rfl, rfl, h⟩ := h
  refine ws_if <| et_not <| et_val <| ex_callF (ok_are_cells R) (hr.mono (by decide)) R.m_are_cells R.F_are_cells R.b_are_cells <| ea_cons <| ex_var ⟨rfl, rfl⟩ <| ea_nil ⟨z, rfl, outU (ob h) (fun b h => ⟨_, rfl, cifN h (fun h => ?g1) (fun h => ?g2)⟩) (fun _ h => h)⟩
  case g1 =>
    refine ws_nil ?_
    exact ws_fld <| ex_var ⟨rfl, rfl⟩ <| ex_var ⟨rfl, rfl⟩ ⟨q, _, dx, [], rfl, List.mem_cons_self, R.L_File.cl, R.A_File_row, by decide, ws_nil (by have h2 : Pd .non ((q, .ins R.C_File dx [("row", .str z)]) :: M0) := h; show Pd .non _; simpa [putC, putD] using h2)⟩
  case g2 => exact ws_raise rfl R.S_InvalidFile R.mc_InvalidFile R.n_super hr <| ex_var ⟨rfl, rfl⟩ h
theorem mk_File {R : Prg K mg} {q dx : Addr} {z : Str} {M : Mem} {P : PK'} {E : XKx} {E1 : Er → Prop} {Q : Str → Prop} (h : (m_File_make z).Out Q E1) (hk : ∀ r, Q r → P (fileD R r) M) (hx : ∀ x, E1 x → E (exE R x) ((q, .ins R.C_File dx []) :: M)) :
    AP (S_File_init R) [.raw (.ref q), .str z] ((q, .ins R.C_File dx []) :: M) (fun d M2 => d = .non ∧ MadeP P q M2) E :=
  ap_all ⟨q, dx, z, M, rfl, rfl, out_mono h (fun r hr => .mk ⟨rfl, made_ok (fs := [("row", .str r)]) (hk r hr)⟩) fun x h => .mk (hx x h)⟩

def S_check_script__v2 (R : Prg K mg) : Spc := fun ds M P E => ∃ (a_value : Any), ds = [(anyD (clR R) a_value)] ∧ (m_check_script__v2 a_value).Out (fun r => P (Empty.elim r) M) (fun x => E (exE R x) M)
theorem ok_check_script__v2 (R : Prg K mg) : FnD PR w K mg base 2 R.f_check_script R.d_check_script P_check_script (S_check_script__v2 R) := by
  refine fn_d false R.F_check_script sc_check_script (fun h => nomatch h) (fun ds M P E ⟨_, e, _⟩ => by rw [e]; rfl) fun cdv A outer s H E hr ds M Pd PE h => ?_
  obtain ⟨a_value, rfl, h⟩ := h
  have hu := hr.units
  refine WS.ends ?_
  refine ws_if <| et_not <| et_val <| ex_callB R.n_isinstance PyProof.Rows.Boot.«isinstance» <| ea_cons <| ex_var ⟨rfl, rfl⟩ <| ea_cons <| ex_gref R.mc_Script <| ea_nil <| r_isO (.own _) R.ic_Script R.tc_Script (suR_Script R) (ob h) (fun z1 h => ⟨_, rfl, cifN h (fun h => ?g3) (fun h => ?g2)⟩) (base_all rfl rfl rfl rfl rfl rfl rfl)
  case g2 =>
    exact ws_raise rfl R.S_InvalidScript R.mc_InvalidScript R.n_super hr <| ex_asA <| ex_var ⟨rfl, rfl⟩ <| ⟨_, rfl, (dX [] h)⟩
  case g3 =>
    refine ws_nil ?_
    exact ws_nil h.elim

def S_check_two__v2 (R : Prg K mg) : Spc := fun ds M P E => ∃ (a_one : Any) (a_other : Any), ds = [(anyD (clR R) a_one), (anyD (clR R) a_other)] ∧ (m_check_two__v2 a_one a_other).Out (fun r => P (Empty.elim r) M) (fun x => E (exE R x) M)
theorem ok_check_two__v2 (R : Prg K mg) : FnD PR w K mg base 3 R.f_check_two R.d_check_two P_check_two (S_check_two__v2 R) := by
  refine fn_d false R.F_check_two sc_check_two (fun h => nomatch h) (fun ds M P E ⟨_, _, e, _⟩ => by rw [e]; rfl) fun cdv A outer s H E hr ds M Pd PE h => ?_
  obtain ⟨a_one, a_other, rfl, h⟩ := h
  have hu := hr.units
  refine WS.ends ?_
  refine ws_expr <| ex_callF (ok_check_script__v2 R) (hr.mono (by decide)) R.m_check_script R.F_check_script R.b_check_script <| ea_cons <| ex_asA <| ex_var ⟨rfl, rfl⟩ <| ⟨_, rfl, ea_nil <| ⟨a_one, rfl, outU (ob h) (fun z1 h => z1.elim) (fun _ h => dX [] h)⟩⟩

def S_alike__v2 (R : Prg K mg) : Spc := fun ds M P E => ∃ (a_one : Any) (a_other : Any), ds = [(anyD (clR R) a_one), (anyD (clR R) a_other)] ∧ (m_alike__v2 a_one a_other).Out (fun r => P (Empty.elim r) M) (fun x => E (exE R x) M)
theorem ok_alike__v2 (R : Prg K mg) : FnD PR w K mg base 4 R.f_alike R.d_alike P_alike (S_alike__v2 R) := by
  refine fn_d false R.F_alike sc_alike (fun h => nomatch h) (fun ds M P E ⟨_, _, e, _⟩ => by rw [e]; rfl) fun cdv A outer s H E hr ds M Pd PE h => ?_
  obtain ⟨a_one, a_other, rfl, h⟩ := h
  have hu := hr.units
  refine WS.ends ?_
  refine ws_expr <| ex_callF (ok_check_two__v2 R) (hr.mono (by decide)) R.m_check_two R.F_check_two R.b_check_two <| ea_cons <| ex_asA <| ex_var ⟨rfl, rfl⟩ <| ⟨_, rfl, ea_cons <| ex_asA <| ex_var ⟨rfl, rfl⟩ <| ⟨_, rfl, ea_nil <| ⟨a_one, a_other, rfl, outU (ob h) (fun z1 h => z1.elim) (fun _ h => dX [] h)⟩⟩⟩

def S_parting__v2 (R : Prg K mg) : Spc := fun ds M P E => ∃ (a_one : Any) (a_other : Any), ds = [(anyD (clR R) a_one), (anyD (clR R) a_other)] ∧ (m_parting__v2 a_one a_other).Out (fun r => P (Empty.elim r) M) (fun x => E (exE R x) M)
theorem ok_parting__v2 (R : Prg K mg) : FnD PR w K mg base 4 R.f_parting R.d_parting P_parting (S_parting__v2 R) := by
  refine fn_d false R.F_parting sc_parting (fun h => nomatch h) (fun ds M P E ⟨_, _, e, _⟩ => by rw [e]; rfl) fun cdv A outer s H E hr ds M Pd PE h => ?_
  obtain ⟨a_one, a_other, rfl, h⟩ := h
  have hu := hr.units
  refine WS.ends ?_
  refine ws_expr <| ex_callF (ok_check_two__v2 R) (hr.mono (by decide)) R.m_check_two R.F_check_two R.b_check_two <| ea_cons <| ex_asA <| ex_var ⟨rfl, rfl⟩ <| ⟨_, rfl, ea_cons <| ex_asA <| ex_var ⟨rfl, rfl⟩ <| ⟨_, rfl, ea_nil <| ⟨a_one, a_other, rfl, outU (ob h) (fun z1 h => z1.elim) (fun _ h => dX [] h)⟩⟩⟩

def S_never_more__v2 (R : Prg K mg) : Spc := fun ds M P E => ∃ (a_one : Any) (a_other : Any), ds = [(anyD (clR R) a_one), (anyD (clR R) a_other)] ∧ (m_never_more__v2 a_one a_other).Out (fun r => P (Empty.elim r) M) (fun x => E (exE R x) M)
theorem ok_never_more__v2 (R : Prg K mg) : FnD PR w K mg base 4 R.f_never_more R.d_never_more P_never_more (S_never_more__v2 R) := by
  refine fn_d false R.F_never_more sc_never_more (fun h => nomatch h) (fun ds M P E ⟨_, _, e, _⟩ => by rw [e]; rfl) fun cdv A outer s H E hr ds M Pd PE h => ?_
  obtain ⟨a_one, a_other, rfl, h⟩ := h
  have hu := hr.units
  refine WS.ends ?_
  refine ws_expr <| ex_callF (ok_check_two__v2 R) (hr.mono (by decide)) R.m_check_two R.F_check_two R.b_check_two <| ea_cons <| ex_asA <| ex_var ⟨rfl, rfl⟩ <| ⟨_, rfl, ea_cons <| ex_asA <| ex_var ⟨rfl, rfl⟩ <| ⟨_, rfl, ea_nil <| ⟨a_one, a_other, rfl, outU (ob h) (fun z1 h => z1.elim) (fun _ h => dX [] h)⟩⟩⟩

def S_more_file__v2 (R : Prg K mg) : Spc := fun ds M P E => ∃ (a_one : Any) (a_other : Any), ds = [(anyD (clR R) a_one), (anyD (clR R) a_other)] ∧ (m_more_file__v2 a_one a_other).Out (fun r => P (Empty.elim r) M) (fun x => E (exE R x) M)
theorem ok_more_file__v2 (R : Prg K mg) : FnD PR w K mg base 4 R.f_more_file R.d_more_file P_more_file (S_more_file__v2 R) := by
  refine fn_d false R.F_more_file sc_more_file (fun h => nomatch h) (fun ds M P E ⟨_, _, e, _⟩ => by rw [e]; rfl) fun cdv A outer s H E hr ds M Pd PE h => ?_
  obtain ⟨a_one, a_other, rfl, h⟩ := h
  have hu := hr.units
  refine WS.ends ?_
  refine ws_expr <| ex_callF (ok_check_two__v2 R) (hr.mono (by decide)) R.m_check_two R.F_check_two R.b_check_two <| ea_cons <| ex_asA <| ex_var ⟨rfl, rfl⟩ <| ⟨_, rfl, ea_cons <| ex_asA <| ex_var ⟨rfl, rfl⟩ <| ⟨_, rfl, ea_nil <| ⟨a_one, a_other, rfl, outU (ob h) (fun z1 h => z1.elim) (fun _ h => dX [] h)⟩⟩⟩

def S_exchangeable__v2 (R : Prg K mg) : Spc := fun ds M P E => ∃ (a_one : Any) (a_other : Any), ds = [(anyD (clR R) a_one), (anyD (clR R) a_other)] ∧ (m_exchangeable__v2 a_one a_other).Out (fun r => P (Empty.elim r) M) (fun x => E (exE R x) M)
theorem ok_exchangeable__v2 (R : Prg K mg) : FnD PR w K mg base 4 R.f_exchangeable R.d_exchangeable P_exchangeable (S_exchangeable__v2 R) := by
  refine fn_d false R.F_exchangeable sc_exchangeable (fun h => nomatch h) (fun ds M P E ⟨_, _, e, _⟩ => by rw [e]; rfl) fun cdv A outer s H E hr ds M Pd PE h => ?_
  obtain ⟨a_one, a_other, rfl, h⟩ := h
  have hu := hr.units
  refine WS.ends ?_
  refine ws_expr <| ex_callF (ok_check_two__v2 R) (hr.mono (by decide)) R.m_check_two R.F_check_two R.b_check_two <| ea_cons <| ex_asA <| ex_var ⟨rfl, rfl⟩ <| ⟨_, rfl, ea_cons <| ex_asA <| ex_var ⟨rfl, rfl⟩ <| ⟨_, rfl, ea_nil <| ⟨a_one, a_other, rfl, outU (ob h) (fun z1 h => z1.elim) (fun _ h => dX [] h)⟩⟩⟩

def S_needless__v2 (R : Prg K mg) : Spc := fun ds M P E => ∃ (a_script : Any), ds = [(anyD (clR R) a_script)] ∧ (m_needless__v2 a_script).Out (fun r => P (Empty.elim r) M) (fun x => E (exE R x) M)
theorem ok_needless__v2 (R : Prg K mg) : FnD PR w K mg base 3 R.f_needless R.d_needless P_needless (S_needless__v2 R) := by
  refine fn_d false R.F_needless sc_needless (fun h => nomatch h) (fun ds M P E ⟨_, e, _⟩ => by rw [e]; rfl) fun cdv A outer s H E hr ds M Pd PE h => ?_
  obtain ⟨a_script, rfl, h⟩ := h
  have hu := hr.units
  refine WS.ends ?_
  refine ws_expr <| ex_callF (ok_check_script__v2 R) (hr.mono (by decide)) R.m_check_script R.F_check_script R.b_check_script <| ea_cons <| ex_asA <| ex_var ⟨rfl, rfl⟩ <| ⟨_, rfl, ea_nil <| ⟨a_script, rfl, outU (ob h) (fun z1 h => z1.elim) (fun _ h => dX [] h)⟩⟩

def S_keeps_holes__v2 (R : Prg K mg) : Spc := fun ds M P E => ∃ (a_script : Any), ds = [(anyD (clR R) a_script)] ∧ (m_keeps_holes__v2 a_script).Out (fun r => P (Empty.elim r) M) (fun x => E (exE R x) M)
theorem ok_keeps_holes__v2 (R : Prg K mg) : FnD PR w K mg base 3 R.f_keeps_holes R.d_keeps_holes P_keeps_holes (S_keeps_holes__v2 R) := by
  refine fn_d false R.F_keeps_holes sc_keeps_holes (fun h => nomatch h) (fun ds M P E ⟨_, e, _⟩ => by rw [e]; rfl) fun cdv A outer s H E hr ds M Pd PE h => ?_
  obtain ⟨a_script, rfl, h⟩ := h
  have hu := hr.units
  refine WS.ends ?_
  refine ws_expr <| ex_callF (ok_check_script__v2 R) (hr.mono (by decide)) R.m_check_script R.F_check_script R.b_check_script <| ea_cons <| ex_asA <| ex_var ⟨rfl, rfl⟩ <| ⟨_, rfl, ea_nil <| ⟨a_script, rfl, outU (ob h) (fun z1 h => z1.elim) (fun _ h => dX [] h)⟩⟩

def S_keeps_written__v2 (R : Prg K mg) : Spc := fun ds M P E => ∃ (a_script : Any), ds = [(anyD (clR R) a_script)] ∧ (m_keeps_written__v2 a_script).Out (fun r => P (Empty.elim r) M) (fun x => E (exE R x) M)
theorem ok_keeps_written__v2 (R : Prg K mg) : FnD PR w K mg base 3 R.f_keeps_written R.d_keeps_written P_keeps_written (S_keeps_written__v2 R) := by
  refine fn_d false R.F_keeps_written sc_keeps_written (fun h => nomatch h) (fun ds M P E ⟨_, e, _⟩ => by rw [e]; rfl) fun cdv A outer s H E hr ds M Pd PE h => ?_
  obtain ⟨a_script, rfl, h⟩ := h
  have hu := hr.units
  refine WS.ends ?_
  refine ws_expr <| ex_callF (ok_check_script__v2 R) (hr.mono (by decide)) R.m_check_script R.F_check_script R.b_check_script <| ea_cons <| ex_asA <| ex_var ⟨rfl, rfl⟩ <| ⟨_, rfl, ea_nil <| ⟨a_script, rfl, outU (ob h) (fun z1 h => z1.elim) (fun _ h => dX [] h)⟩⟩

def S_law_call__v2 (R : Prg K mg) : Spc := fun ds M P E => ∃ (a_way : Int) (a_one : Any) (a_other : Any), ds = [(.int a_way), ((anyD (clR R)) a_one), ((anyD (clR R)) a_other)] ∧ (m_law_call__v2 a_way a_one a_other).Out (fun r => P (Empty.elim r) M) (fun x => E (exE R x) M)
theorem ok_law_call__v2 (R : Prg K mg) : FnD PR w K mg base 13 R.f_law_call R.d_law_call P_law_call (S_law_call__v2 R) := by
  refine fn_d false R.F_law_call sc_law_call (fun h => nomatch h) (fun ds M P E ⟨_, _, _, e, _⟩ => by rw [e]; rfl) fun cdv A outer s H E hr ds M Pd PE h => ?_
  obtain ⟨a_way, a_one, a_other, rfl, h⟩ := h
  have hu := hr.units
  refine WS.ends ?_
  unfold m_law_call__v2 at h
  by_cases w0 : a_way = 0
  · subst w0
    rw [decide_eq_true rfl, cond_true] at h
    refine ws_if <| et_cmp <| ex_var ⟨rfl, rfl⟩ <| ex_int <| o_lt <| ⟨_, rfl, (fun _ => ?_), fun z => nomatch z⟩
    exact ws_ret <| ex_callX <| ex_ix <| ex_lst <| ea_cons <| ex_gref R.m_alike <| ea_cons <| ex_gref R.m_parting <| ea_cons <| ex_gref R.m_never_more <| ea_cons <| ex_gref R.m_more_file <| ea_cons <| ex_gref R.m_exchangeable <| ea_nil ⟨ln, ex_var ⟨rfl, rfl⟩ <| i_lst (d := .raw (.ref R.f_alike)) rfl ⟨_, _, _, _, _, rfl, ok_alike__v2 R, (hr.mono (by decide)), R.F_alike.kp, R.b_alike, ea_cons <| ex_var ⟨rfl, rfl⟩ <| ea_cons <| ex_var ⟨rfl, rfl⟩ <| ea_nil (ap_all ⟨a_one, a_other, rfl, out_mono h (fun z h => z.elim) (fun _ h => UpP.mk (dX [] h))⟩)⟩⟩
  rw [decide_eq_false w0, cond_false] at h
  by_cases w1 : a_way = 1
  · subst w1
    rw [decide_eq_true rfl, cond_true] at h
    refine ws_if <| et_cmp <| ex_var ⟨rfl, rfl⟩ <| ex_int <| o_lt <| ⟨_, rfl, (fun _ => ?_), fun z => nomatch z⟩
    exact ws_ret <| ex_callX <| ex_ix <| ex_lst <| ea_cons <| ex_gref R.m_alike <| ea_cons <| ex_gref R.m_parting <| ea_cons <| ex_gref R.m_never_more <| ea_cons <| ex_gref R.m_more_file <| ea_cons <| ex_gref R.m_exchangeable <| ea_nil ⟨ln, ex_var ⟨rfl, rfl⟩ <| i_lst (d := .raw (.ref R.f_parting)) rfl ⟨_, _, _, _, _, rfl, ok_parting__v2 R, (hr.mono (by decide)), R.F_parting.kp, R.b_parting, ea_cons <| ex_var ⟨rfl, rfl⟩ <| ea_cons <| ex_var ⟨rfl, rfl⟩ <| ea_nil (ap_all ⟨a_one, a_other, rfl, out_mono h (fun z h => z.elim) (fun _ h => UpP.mk (dX [] h))⟩)⟩⟩
  rw [decide_eq_false w1, cond_false] at h
  by_cases w2 : a_way = 2
  · subst w2
    rw [decide_eq_true rfl, cond_true] at h
    refine ws_if <| et_cmp <| ex_var ⟨rfl, rfl⟩ <| ex_int <| o_lt <| ⟨_, rfl, (fun _ => ?_), fun z => nomatch z⟩
    exact ws_ret <| ex_callX <| ex_ix <| ex_lst <| ea_cons <| ex_gref R.m_alike <| ea_cons <| ex_gref R.m_parting <| ea_cons <| ex_gref R.m_never_more <| ea_cons <| ex_gref R.m_more_file <| ea_cons <| ex_gref R.m_exchangeable <| ea_nil ⟨ln, ex_var ⟨rfl, rfl⟩ <| i_lst (d := .raw (.ref R.f_never_more)) rfl ⟨_, _, _, _, _, rfl, ok_never_more__v2 R, (hr.mono (by decide)), R.F_never_more.kp, R.b_never_more, ea_cons <| ex_var ⟨rfl, rfl⟩ <| ea_cons <| ex_var ⟨rfl, rfl⟩ <| ea_nil (ap_all ⟨a_one, a_other, rfl, out_mono h (fun z h => z.elim) (fun _ h => UpP.mk (dX [] h))⟩)⟩⟩
  rw [decide_eq_false w2, cond_false] at h
  by_cases w3 : a_way = 3
  · subst w3
    rw [decide_eq_true rfl, cond_true] at h
    refine ws_if <| et_cmp <| ex_var ⟨rfl, rfl⟩ <| ex_int <| o_lt <| ⟨_, rfl, (fun _ => ?_), fun z => nomatch z⟩
    exact ws_ret <| ex_callX <| ex_ix <| ex_lst <| ea_cons <| ex_gref R.m_alike <| ea_cons <| ex_gref R.m_parting <| ea_cons <| ex_gref R.m_never_more <| ea_cons <| ex_gref R.m_more_file <| ea_cons <| ex_gref R.m_exchangeable <| ea_nil ⟨ln, ex_var ⟨rfl, rfl⟩ <| i_lst (d := .raw (.ref R.f_more_file)) rfl ⟨_, _, _, _, _, rfl, ok_more_file__v2 R, (hr.mono (by decide)), R.F_more_file.kp, R.b_more_file, ea_cons <| ex_var ⟨rfl, rfl⟩ <| ea_cons <| ex_var ⟨rfl, rfl⟩ <| ea_nil (ap_all ⟨a_one, a_other, rfl, out_mono h (fun z h => z.elim) (fun _ h => UpP.mk (dX [] h))⟩)⟩⟩
  rw [decide_eq_false w3, cond_false] at h
  by_cases w4 : a_way = 4
  · subst w4
    rw [decide_eq_true rfl, cond_true] at h
    refine ws_if <| et_cmp <| ex_var ⟨rfl, rfl⟩ <| ex_int <| o_lt <| ⟨_, rfl, (fun _ => ?_), fun z => nomatch z⟩
    exact ws_ret <| ex_callX <| ex_ix <| ex_lst <| ea_cons <| ex_gref R.m_alike <| ea_cons <| ex_gref R.m_parting <| ea_cons <| ex_gref R.m_never_more <| ea_cons <| ex_gref R.m_more_file <| ea_cons <| ex_gref R.m_exchangeable <| ea_nil ⟨ln, ex_var ⟨rfl, rfl⟩ <| i_lst (d := .raw (.ref R.f_exchangeable)) rfl ⟨_, _, _, _, _, rfl, ok_exchangeable__v2 R, (hr.mono (by decide)), R.F_exchangeable.kp, R.b_exchangeable, ea_cons <| ex_var ⟨rfl, rfl⟩ <| ea_cons <| ex_var ⟨rfl, rfl⟩ <| ea_nil (ap_all ⟨a_one, a_other, rfl, out_mono h (fun z h => z.elim) (fun _ h => UpP.mk (dX [] h))⟩)⟩⟩
  rw [decide_eq_false w4, cond_false] at h
  by_cases w5 : a_way = 5
  · subst w5
    rw [decide_eq_true rfl, cond_true] at h
    refine ws_if <| et_cmp <| ex_var ⟨rfl, rfl⟩ <| ex_int <| o_lt <| ⟨_, rfl, (fun z => nomatch z), fun _ => ws_nil ?_⟩
    exact ws_ret <| ex_callX <| ex_ix <| ex_lst <| ea_cons <| ex_gref R.m_needless <| ea_cons <| ex_gref R.m_keeps_holes <| ea_cons <| ex_gref R.m_keeps_written <| ea_nil ⟨ln, ex_bin <| ex_var ⟨rfl, rfl⟩ <| ex_int <| o_sub <| i_lst (d := .raw (.ref R.f_needless)) rfl ⟨_, _, _, _, _, rfl, ok_needless__v2 R, (hr.mono (by decide)), R.F_needless.kp, R.b_needless, ea_cons <| ex_var ⟨rfl, rfl⟩ <| ea_nil (ap_all ⟨a_one, rfl, out_mono h (fun z h => z.elim) (fun _ h => UpP.mk (dX [] h))⟩)⟩⟩
  rw [decide_eq_false w5, cond_false] at h
  by_cases w6 : a_way = 6
  · subst w6
    rw [decide_eq_true rfl, cond_true] at h
    refine ws_if <| et_cmp <| ex_var ⟨rfl, rfl⟩ <| ex_int <| o_lt <| ⟨_, rfl, (fun z => nomatch z), fun _ => ws_nil ?_⟩
    exact ws_ret <| ex_callX <| ex_ix <| ex_lst <| ea_cons <| ex_gref R.m_needless <| ea_cons <| ex_gref R.m_keeps_holes <| ea_cons <| ex_gref R.m_keeps_written <| ea_nil ⟨ln, ex_bin <| ex_var ⟨rfl, rfl⟩ <| ex_int <| o_sub <| i_lst (d := .raw (.ref R.f_keeps_holes)) rfl ⟨_, _, _, _, _, rfl, ok_keeps_holes__v2 R, (hr.mono (by decide)), R.F_keeps_holes.kp, R.b_keeps_holes, ea_cons <| ex_var ⟨rfl, rfl⟩ <| ea_nil (ap_all ⟨a_one, rfl, out_mono h (fun z h => z.elim) (fun _ h => UpP.mk (dX [] h))⟩)⟩⟩
  rw [decide_eq_false w6, cond_false] at h
  by_cases w7 : a_way = 7
  · subst w7
    rw [decide_eq_true rfl, cond_true] at h
    refine ws_if <| et_cmp <| ex_var ⟨rfl, rfl⟩ <| ex_int <| o_lt <| ⟨_, rfl, (fun z => nomatch z), fun _ => ws_nil ?_⟩
    exact ws_ret <| ex_callX <| ex_ix <| ex_lst <| ea_cons <| ex_gref R.m_needless <| ea_cons <| ex_gref R.m_keeps_holes <| ea_cons <| ex_gref R.m_keeps_written <| ea_nil ⟨ln, ex_bin <| ex_var ⟨rfl, rfl⟩ <| ex_int <| o_sub <| i_lst (d := .raw (.ref R.f_keeps_written)) rfl ⟨_, _, _, _, _, rfl, ok_keeps_written__v2 R, (hr.mono (by decide)), R.F_keeps_written.kp, R.b_keeps_written, ea_cons <| ex_var ⟨rfl, rfl⟩ <| ea_nil (ap_all ⟨a_one, rfl, out_mono h (fun z h => z.elim) (fun _ h => UpP.mk (dX [] h))⟩)⟩⟩
  rw [decide_eq_false w7, cond_false] at h
  exact h.elim

def S_law_told (R : Prg K mg) : Spc := fun ds M P E => ∃ (a_way : Int) (a_one : Any) (a_other : Any), ds = [(.int a_way), (anyD (clR R) a_one), (anyD (clR R) a_other)] ∧ (m_law_told a_way a_one a_other).Out (fun r => P ((lstD (anyD (clR R))) r) M) (fun x => E (exE R x) M)
theorem ok_law_told (R : Prg K mg) : FnD PR w K mg base 14 R.f_law_told R.d_law_told P_law_told (S_law_told R) := by
  refine fn_d false R.F_law_told sc_law_told (fun h => nomatch h) (fun ds M P E ⟨_, _, _, e, _⟩ => by rw [e]; rfl) fun cdv A outer s H E hr ds M Pd PE h => ?_
  obtain ⟨a_way, a_one, a_other, rfl, h⟩ := h
  have hu := hr.units
  refine WS.ends ?_
  refine ws_set <| ex_lst <| ea_cons <| ex_asA <| ex_str <| ⟨anyD (clR R) (Any.str ("none" : Str)), (by first | rfl | (simp only [anyD, anyDL, anyDL_map, List.map_map]; done) | (simp only [anyD, anyDL, anyDL_map, List.map_map]; rfl) | (simp only [anyD, anyDL, anyDL_map, List.map_map, stepA_comp, stepA_D]; rfl) | (simp only [anyD, anyDL, anyDL_map, List.map_map, stepA_comp, stepA_D]; done)), ea_nil ⟨ln, ?_⟩⟩
  refine ws_tryJ (exE R) (fun Q τ M' => ∃ s1 : (List Any), ∃ d4, [some (.int a_way), some (anyD (clR R) a_one), some (anyD (clR R) a_other), some ((lstD (anyD (clR R))) s1), d4] = τ ∧ M = M' ∧ Q s1) (l₀ := ⟨_, _, _, _, _, _, _⟩) (ls := []) (ob h) rfl rfl (.cons ⟨rfl, (by show (("InvalidScript" : Str) == ("__debug__" : Str)) = false; decide), .inl R.mc_InvalidScript⟩ rfl rfl (.nil)) (fun h pn xe po => ?b5) ?x6 ?k7
  case b5 =>
    refine ws_set <| ex_lst <| ea_cons <| ex_asA <| ex_callF (ok_law_call__v2 R) (hr.mono (by decide)) R.m_law_call R.F_law_call R.b_law_call <| ea_cons <| ex_var ⟨rfl, rfl⟩ <| ea_cons <| ex_asA <| ex_var ⟨rfl, rfl⟩ <| ⟨_, rfl, ea_cons <| ex_asA <| ex_var ⟨rfl, rfl⟩ <| ⟨_, rfl, ea_nil <| ⟨a_way, a_one, a_other, rfl, outU (ob h) (fun z2 h => z2.elim) (fun _ h => tX [] h)⟩⟩⟩
  case x6 =>
    rintro ⟨kk, x3⟩ h
    cases kk with
    | file =>
      refine ⟨false, R.e_InvalidFile_InvalidScript, (fun z => nomatch z), fun _ => (fun _ h => dX [] h) _ h⟩
    | number =>
      refine ⟨false, R.e_InvalidNumber_InvalidScript, (fun z => nomatch z), fun _ => (fun _ h => dX [] h) _ h⟩
    | script =>
      refine ⟨true, R.e_InvalidScript_InvalidScript, fun _ => ⟨List.cons_ne_nil _ _, fun a dd oe pn hz hv => ?_⟩, fun z => nomatch z⟩
      refine ws_set <| ex_lst <| ea_cons <| ex_asA <| ex_ev R.x_InvalidScript R.S_InvalidScript.nf hz hv ⟨rfl, rfl⟩ rfl <| ⟨_, rfl, ea_nil ⟨ln, ?_⟩⟩
      exact ws_nil ⟨([x3] : List Any), _, rfl, rfl, h⟩
    | _ => exact h.elim
  case k7 =>
    rintro _ _ ⟨s1, d4, rfl, rfl, h⟩
    exact ws_ret <| ex_asA <| ex_var ⟨rfl, rfl⟩ <| ⟨_, rfl, (dN [] h)⟩

def S_check_script (R : Prg K mg) : Spc := fun ds M P E => ∃ (a_value : (List StepT)), ds = [((scriptD R) a_value)] ∧ (m_check_script a_value).Out (fun r => P .non M) (fun x => E (exE R x) M)
theorem ok_check_script (R : Prg K mg) : FnD PR w K mg base 1 R.f_check_script R.d_check_script P_check_script (S_check_script R) := by
  refine fn_d false R.F_check_script sc_check_script (fun h => nomatch h) (fun ds M P E ⟨_, e, _⟩ => by rw [e]; rfl) fun cdv A outer s H E hr ds M Pd PE h => ?_
  obtain ⟨a_value, rfl, h⟩ := h
  have hu := hr.units
  refine WS.ends ?_
  refine ws_if <| et_not <| et_val <| ex_callB R.n_isinstance PyProof.Rows.Boot.«isinstance» <| ea_cons <| ex_var ⟨rfl, rfl⟩ <| ea_cons <| ex_gref R.mc_Script <| ea_nil <| c_isi (k := true) (.own _) (.obj R.L_Script) R.s_Script_Script <| ⟨_, rfl, (fun z => absurd z (by decide)), fun _ => ?_⟩
  refine ws_nil ?_
  exact ws_nil (dN [] h)

def S_check_two__v3 (R : Prg K mg) : Spc := fun ds M P E => ∃ (a_one : (List StepT)) (a_other : Any), ds = [((scriptD R) a_one), (anyD (clR R) a_other)] ∧ (m_check_two__v3 a_one a_other).Out (fun r => P (Empty.elim r) M) (fun x => E (exE R x) M)
theorem ok_check_two__v3 (R : Prg K mg) : FnD PR w K mg base 3 R.f_check_two R.d_check_two P_check_two (S_check_two__v3 R) := by
  refine fn_d false R.F_check_two sc_check_two (fun h => nomatch h) (fun ds M P E ⟨_, _, e, _⟩ => by rw [e]; rfl) fun cdv A outer s H E hr ds M Pd PE h => ?_
  obtain ⟨a_one, a_other, rfl, h⟩ := h
  have hu := hr.units
  refine WS.ends ?_
  refine ws_expr <| ex_callF (ok_check_script R) (hr.mono (by decide)) R.m_check_script R.F_check_script R.b_check_script <| ea_cons <| ex_var ⟨rfl, rfl⟩ <| ea_nil <| ⟨a_one, rfl, outU (ob h) (fun z1 h => ?_) (fun _ h => dX [] h)⟩
  refine ws_expr <| ex_callF (ok_check_script__v2 R) (hr.mono (by decide)) R.m_check_script R.F_check_script R.b_check_script <| ea_cons <| ex_asA <| ex_var ⟨rfl, rfl⟩ <| ⟨_, rfl, ea_nil <| ⟨a_other, rfl, outU (ob h) (fun z2 h => z2.elim) (fun _ h => dX [] h)⟩⟩

def S_alike__v3 (R : Prg K mg) : Spc := fun ds M P E => ∃ (a_one : (List StepT)) (a_other : Any), ds = [((scriptD R) a_one), (anyD (clR R) a_other)] ∧ (m_alike__v3 a_one a_other).Out (fun r => P (Empty.elim r) M) (fun x => E (exE R x) M)
theorem ok_alike__v3 (R : Prg K mg) : FnD PR w K mg base 4 R.f_alike R.d_alike P_alike (S_alike__v3 R) := by
  refine fn_d false R.F_alike sc_alike (fun h => nomatch h) (fun ds M P E ⟨_, _, e, _⟩ => by rw [e]; rfl) fun cdv A outer s H E hr ds M Pd PE h => ?_
  obtain ⟨a_one, a_other, rfl, h⟩ := h
  have hu := hr.units
  refine WS.ends ?_
  refine ws_expr <| ex_callF (ok_check_two__v3 R) (hr.mono (by decide)) R.m_check_two R.F_check_two R.b_check_two <| ea_cons <| ex_var ⟨rfl, rfl⟩ <| ea_cons <| ex_asA <| ex_var ⟨rfl, rfl⟩ <| ⟨_, rfl, ea_nil <| ⟨a_one, a_other, rfl, outU (ob h) (fun z1 h => z1.elim) (fun _ h => dX [] h)⟩⟩

def S_parting__v3 (R : Prg K mg) : Spc := fun ds M P E => ∃ (a_one : (List StepT)) (a_other : Any), ds = [((scriptD R) a_one), (anyD (clR R) a_other)] ∧ (m_parting__v3 a_one a_other).Out (fun r => P (Empty.elim r) M) (fun x => E (exE R x) M)
theorem ok_parting__v3 (R : Prg K mg) : FnD PR w K mg base 4 R.f_parting R.d_parting P_parting (S_parting__v3 R) := by
  refine fn_d false R.F_parting sc_parting (fun h => nomatch h) (fun ds M P E ⟨_, _, e, _⟩ => by rw [e]; rfl) fun cdv A outer s H E hr ds M Pd PE h => ?_
  obtain ⟨a_one, a_other, rfl, h⟩ := h
  have hu := hr.units
  refine WS.ends ?_
  refine ws_expr <| ex_callF (ok_check_two__v3 R) (hr.mono (by decide)) R.m_check_two R.F_check_two R.b_check_two <| ea_cons <| ex_var ⟨rfl, rfl⟩ <| ea_cons <| ex_asA <| ex_var ⟨rfl, rfl⟩ <| ⟨_, rfl, ea_nil <| ⟨a_one, a_other, rfl, outU (ob h) (fun z1 h => z1.elim) (fun _ h => dX [] h)⟩⟩

def S_never_more__v3 (R : Prg K mg) : Spc := fun ds M P E => ∃ (a_one : (List StepT)) (a_other : Any), ds = [((scriptD R) a_one), (anyD (clR R) a_other)] ∧ (m_never_more__v3 a_one a_other).Out (fun r => P (Empty.elim r) M) (fun x => E (exE R x) M)
theorem ok_never_more__v3 (R : Prg K mg) : FnD PR w K mg base 4 R.f_never_more R.d_never_more P_never_more (S_never_more__v3 R) := by
  refine fn_d false R.F_never_more sc_never_more (fun h => nomatch h) (fun ds M P E ⟨_, _, e, _⟩ => by rw [e]; rfl) fun cdv A outer s H E hr ds M Pd PE h => ?_
  obtain ⟨a_one, a_other, rfl, h⟩ := h
  have hu := hr.units
  refine WS.ends ?_
  refine ws_expr <| ex_callF (ok_check_two__v3 R) (hr.mono (by decide)) R.m_check_two R.F_check_two R.b_check_two <| ea_cons <| ex_var ⟨rfl, rfl⟩ <| ea_cons <| ex_asA <| ex_var ⟨rfl, rfl⟩ <| ⟨_, rfl, ea_nil <| ⟨a_one, a_other, rfl, outU (ob h) (fun z1 h => z1.elim) (fun _ h => dX [] h)⟩⟩

def S_more_file__v3 (R : Prg K mg) : Spc := fun ds M P E => ∃ (a_one : (List StepT)) (a_other : Any), ds = [((scriptD R) a_one), (anyD (clR R) a_other)] ∧ (m_more_file__v3 a_one a_other).Out (fun r => P (Empty.elim r) M) (fun x => E (exE R x) M)
theorem ok_more_file__v3 (R : Prg K mg) : FnD PR w K mg base 4 R.f_more_file R.d_more_file P_more_file (S_more_file__v3 R) := by
  refine fn_d false R.F_more_file sc_more_file (fun h => nomatch h) (fun ds M P E ⟨_, _, e, _⟩ => by rw [e]; rfl) fun cdv A outer s H E hr ds M Pd PE h => ?_
  obtain ⟨a_one, a_other, rfl, h⟩ := h
  have hu := hr.units
  refine WS.ends ?_
  refine ws_expr <| ex_callF (ok_check_two__v3 R) (hr.mono (by decide)) R.m_check_two R.F_check_two R.b_check_two <| ea_cons <| ex_var ⟨rfl, rfl⟩ <| ea_cons <| ex_asA <| ex_var ⟨rfl, rfl⟩ <| ⟨_, rfl, ea_nil <| ⟨a_one, a_other, rfl, outU (ob h) (fun z1 h => z1.elim) (fun _ h => dX [] h)⟩⟩

def S_exchangeable__v3 (R : Prg K mg) : Spc := fun ds M P E => ∃ (a_one : (List StepT)) (a_other : Any), ds = [((scriptD R) a_one), (anyD (clR R) a_other)] ∧ (m_exchangeable__v3 a_one a_other).Out (fun r => P (Empty.elim r) M) (fun x => E (exE R x) M)
theorem ok_exchangeable__v3 (R : Prg K mg) : FnD PR w K mg base 4 R.f_exchangeable R.d_exchangeable P_exchangeable (S_exchangeable__v3 R) := by
  refine fn_d false R.F_exchangeable sc_exchangeable (fun h => nomatch h) (fun ds M P E ⟨_, _, e, _⟩ => by rw [e]; rfl) fun cdv A outer s H E hr ds M Pd PE h => ?_
  obtain ⟨a_one, a_other, rfl, h⟩ := h
  have hu := hr.units
  refine WS.ends ?_
  refine ws_expr <| ex_callF (ok_check_two__v3 R) (hr.mono (by decide)) R.m_check_two R.F_check_two R.b_check_two <| ea_cons <| ex_var ⟨rfl, rfl⟩ <| ea_cons <| ex_asA <| ex_var ⟨rfl, rfl⟩ <| ⟨_, rfl, ea_nil <| ⟨a_one, a_other, rfl, outU (ob h) (fun z1 h => z1.elim) (fun _ h => dX [] h)⟩⟩

def S_law_call__v3 (R : Prg K mg) : Spc := fun ds M P E => ∃ (a_way : Int) (a_one : List StepT) (a_other : Any), ds = [(.int a_way), ((scriptD R) a_one), ((anyD (clR R)) a_other)] ∧ (m_law_call__v3 a_way a_one a_other).Out (fun r => P (Empty.elim r) M) (fun x => E (exE R x) M)
theorem ok_law_call__v3 (R : Prg K mg) : FnD PR w K mg base 13 R.f_law_call R.d_law_call P_law_call (S_law_call__v3 R) := by
  refine fn_d false R.F_law_call sc_law_call (fun h => nomatch h) (fun ds M P E ⟨_, _, _, e, _⟩ => by rw [e]; rfl) fun cdv A outer s H E hr ds M Pd PE h => ?_
  obtain ⟨a_way, a_one, a_other, rfl, h⟩ := h
  have hu := hr.units
  refine WS.ends ?_
  unfold m_law_call__v3 at h
  by_cases w0 : a_way = 0
  · subst w0
    rw [decide_eq_true rfl, cond_true] at h
    refine ws_if <| et_cmp <| ex_var ⟨rfl, rfl⟩ <| ex_int <| o_lt <| ⟨_, rfl, (fun _ => ?_), fun z => nomatch z⟩
    exact ws_ret <| ex_callX <| ex_ix <| ex_lst <| ea_cons <| ex_gref R.m_alike <| ea_cons <| ex_gref R.m_parting <| ea_cons <| ex_gref R.m_never_more <| ea_cons <| ex_gref R.m_more_file <| ea_cons <| ex_gref R.m_exchangeable <| ea_nil ⟨ln, ex_var ⟨rfl, rfl⟩ <| i_lst (d := .raw (.ref R.f_alike)) rfl ⟨_, _, _, _, _, rfl, ok_alike__v3 R, (hr.mono (by decide)), R.F_alike.kp, R.b_alike, ea_cons <| ex_var ⟨rfl, rfl⟩ <| ea_cons <| ex_var ⟨rfl, rfl⟩ <| ea_nil (ap_all ⟨a_one, a_other, rfl, out_mono h (fun z h => z.elim) (fun _ h => UpP.mk (dX [] h))⟩)⟩⟩
  rw [decide_eq_false w0, cond_false] at h
  by_cases w1 : a_way = 1
  · subst w1
    rw [decide_eq_true rfl, cond_true] at h
    refine ws_if <| et_cmp <| ex_var ⟨rfl, rfl⟩ <| ex_int <| o_lt <| ⟨_, rfl, (fun _ => ?_), fun z => nomatch z⟩
    exact ws_ret <| ex_callX <| ex_ix <| ex_lst <| ea_cons <| ex_gref R.m_alike <| ea_cons <| ex_gref R.m_parting <| ea_cons <| ex_gref R.m_never_more <| ea_cons <| ex_gref R.m_more_file <| ea_cons <| ex_gref R.m_exchangeable <| ea_nil ⟨ln, ex_var ⟨rfl, rfl⟩ <| i_lst (d := .raw (.ref R.f_parting)) rfl ⟨_, _, _, _, _, rfl, ok_parting__v3 R, (hr.mono (by decide)), R.F_parting.kp, R.b_parting, ea_cons <| ex_var ⟨rfl, rfl⟩ <| ea_cons <| ex_var ⟨rfl, rfl⟩ <| ea_nil (ap_all ⟨a_one, a_other, rfl, out_mono h (fun z h => z.elim) (fun _ h => UpP.mk (dX [] h))⟩)⟩⟩
  rw [decide_eq_false w1, cond_false] at h
  by_cases w2 : a_way = 2
  · subst w2
    rw [decide_eq_true rfl, cond_true] at h
    refine ws_if <| et_cmp <| ex_var ⟨rfl, rfl⟩ <| ex_int <| o_lt <| ⟨_, rfl, (fun _ => ?_), fun z => nomatch z⟩
    exact ws_ret <| ex_callX <| ex_ix <| ex_lst <| ea_cons <| ex_gref R.m_alike <| ea_cons <| ex_gref R.m_parting <| ea_cons <| ex_gref R.m_never_more <| ea_cons <| ex_gref R.m_more_file <| ea_cons <| ex_gref R.m_exchangeable <| ea_nil ⟨ln, ex_var ⟨rfl, rfl⟩ <| i_lst (d := .raw (.ref R.f_never_more)) rfl ⟨_, _, _, _, _, rfl, ok_never_more__v3 R, (hr.mono (by decide)), R.F_never_more.kp, R.b_never_more, ea_cons <| ex_var ⟨rfl, rfl⟩ <| ea_cons <| ex_var ⟨rfl, rfl⟩ <| ea_nil (ap_all ⟨a_one, a_other, rfl, out_mono h (fun z h => z.elim) (fun _ h => UpP.mk (dX [] h))⟩)⟩⟩
  rw [decide_eq_false w2, cond_false] at h
  by_cases w3 : a_way = 3
  · subst w3
    rw [decide_eq_true rfl, cond_true] at h
    refine ws_if <| et_cmp <| ex_var ⟨rfl, rfl⟩ <| ex_int <| o_lt <| ⟨_, rfl, (fun _ => ?_), fun z => nomatch z⟩
    exact ws_ret <| ex_callX <| ex_ix <| ex_lst <| ea_cons <| ex_gref R.m_alike <| ea_cons <| ex_gref R.m_parting <| ea_cons <| ex_gref R.m_never_more <| ea_cons <| ex_gref R.m_more_file <| ea_cons <| ex_gref R.m_exchangeable <| ea_nil ⟨ln, ex_var ⟨rfl, rfl⟩ <| i_lst (d := .raw (.ref R.f_more_file)) rfl ⟨_, _, _, _, _, rfl, ok_more_file__v3 R, (hr.mono (by decide)), R.F_more_file.kp, R.b_more_file, ea_cons <| ex_var ⟨rfl, rfl⟩ <| ea_cons <| ex_var ⟨rfl, rfl⟩ <| ea_nil (ap_all ⟨a_one, a_other, rfl, out_mono h (fun z h => z.elim) (fun _ h => UpP.mk (dX [] h))⟩)⟩⟩
  rw [decide_eq_false w3, cond_false] at h
  by_cases w4 : a_way = 4
  · subst w4
    rw [decide_eq_true rfl, cond_true] at h
    refine ws_if <| et_cmp <| ex_var ⟨rfl, rfl⟩ <| ex_int <| o_lt <| ⟨_, rfl, (fun _ => ?_), fun z => nomatch z⟩
    exact ws_ret <| ex_callX <| ex_ix <| ex_lst <| ea_cons <| ex_gref R.m_alike <| ea_cons <| ex_gref R.m_parting <| ea_cons <| ex_gref R.m_never_more <| ea_cons <| ex_gref R.m_more_file <| ea_cons <| ex_gref R.m_exchangeable <| ea_nil ⟨ln, ex_var ⟨rfl, rfl⟩ <| i_lst (d := .raw (.ref R.f_exchangeable)) rfl ⟨_, _, _, _, _, rfl, ok_exchangeable__v3 R, (hr.mono (by decide)), R.F_exchangeable.kp, R.b_exchangeable, ea_cons <| ex_var ⟨rfl, rfl⟩ <| ea_cons <| ex_var ⟨rfl, rfl⟩ <| ea_nil (ap_all ⟨a_one, a_other, rfl, out_mono h (fun z h => z.elim) (fun _ h => UpP.mk (dX [] h))⟩)⟩⟩
  rw [decide_eq_false w4, cond_false] at h
  exact h.elim

def S_law_told__v2 (R : Prg K mg) : Spc := fun ds M P E => ∃ (a_way : Int) (a_one : (List StepT)) (a_other : Any), ds = [(.int a_way), ((scriptD R) a_one), (anyD (clR R) a_other)] ∧ (m_law_told__v2 a_way a_one a_other).Out (fun r => P ((lstD (anyD (clR R))) r) M) (fun x => E (exE R x) M)
theorem ok_law_told__v2 (R : Prg K mg) : FnD PR w K mg base 14 R.f_law_told R.d_law_told P_law_told (S_law_told__v2 R) := by
  refine fn_d false R.F_law_told sc_law_told (fun h => nomatch h) (fun ds M P E ⟨_, _, _, e, _⟩ => by rw [e]; rfl) fun cdv A outer s H E hr ds M Pd PE h => ?_
  obtain ⟨a_way, a_one, a_other, rfl, h⟩ := h
  have hu := hr.units
  refine WS.ends ?_
  refine ws_set <| ex_lst <| ea_cons <| ex_asA <| ex_str <| ⟨anyD (clR R) (Any.str ("none" : Str)), (by first | rfl | (simp only [anyD, anyDL, anyDL_map, List.map_map]; done) | (simp only [anyD, anyDL, anyDL_map, List.map_map]; rfl) | (simp only [anyD, anyDL, anyDL_map, List.map_map, stepA_comp, stepA_D]; rfl) | (simp only [anyD, anyDL, anyDL_map, List.map_map, stepA_comp, stepA_D]; done)), ea_nil ⟨ln, ?_⟩⟩
  refine ws_tryJ (exE R) (fun Q τ M' => ∃ s1 : (List Any), ∃ d4, [some (.int a_way), some ((scriptD R) a_one), some (anyD (clR R) a_other), some ((lstD (anyD (clR R))) s1), d4] = τ ∧ M = M' ∧ Q s1) (l₀ := ⟨_, _, _, _, _, _, _⟩) (ls := []) (ob h) rfl rfl (.cons ⟨rfl, (by show (("InvalidScript" : Str) == ("__debug__" : Str)) = false; decide), .inl R.mc_InvalidScript⟩ rfl rfl (.nil)) (fun h pn xe po => ?b5) ?x6 ?k7
  case b5 =>
    refine ws_set <| ex_lst <| ea_cons <| ex_asA <| ex_callF (ok_law_call__v3 R) (hr.mono (by decide)) R.m_law_call R.F_law_call R.b_law_call <| ea_cons <| ex_var ⟨rfl, rfl⟩ <| ea_cons <| ex_var ⟨rfl, rfl⟩ <| ea_cons <| ex_asA <| ex_var ⟨rfl, rfl⟩ <| ⟨_, rfl, ea_nil <| ⟨a_way, a_one, a_other, rfl, outU (ob h) (fun z2 h => z2.elim) (fun _ h => tX [] h)⟩⟩
  case x6 =>
    rintro ⟨kk, x3⟩ h
    cases kk with
    | file =>
      refine ⟨false, R.e_InvalidFile_InvalidScript, (fun z => nomatch z), fun _ => (fun _ h => dX [] h) _ h⟩
    | number =>
      refine ⟨false, R.e_InvalidNumber_InvalidScript, (fun z => nomatch z), fun _ => (fun _ h => dX [] h) _ h⟩
    | script =>
      refine ⟨true, R.e_InvalidScript_InvalidScript, fun _ => ⟨List.cons_ne_nil _ _, fun a dd oe pn hz hv => ?_⟩, fun z => nomatch z⟩
      refine ws_set <| ex_lst <| ea_cons <| ex_asA <| ex_ev R.x_InvalidScript R.S_InvalidScript.nf hz hv ⟨rfl, rfl⟩ rfl <| ⟨_, rfl, ea_nil ⟨ln, ?_⟩⟩
      exact ws_nil ⟨([x3] : List Any), _, rfl, rfl, h⟩
    | _ => exact h.elim
  case k7 =>
    rintro _ _ ⟨s1, d4, rfl, rfl, h⟩
    exact ws_ret <| ex_asA <| ex_var ⟨rfl, rfl⟩ <| ⟨_, rfl, (dN [] h)⟩

def S_check_two (R : Prg K mg) : Spc := fun ds M P E => ∃ (a_one : (List StepT)) (a_other : (List StepT)), ds = [((scriptD R) a_one), ((scriptD R) a_other)] ∧ (m_check_two a_one a_other).Out (fun r => P .non M) (fun x => E (exE R x) M)
theorem ok_check_two (R : Prg K mg) : FnD PR w K mg base 2 R.f_check_two R.d_check_two P_check_two (S_check_two R) := by
  refine fn_d false R.F_check_two sc_check_two (fun h => nomatch h) (fun ds M P E ⟨_, _, e, _⟩ => by rw [e]; rfl) fun cdv A outer s H E hr ds M Pd PE h => ?_
  obtain ⟨a_one, a_other, rfl, h⟩ := h
  have hu := hr.units
  refine WS.ends ?_
  refine ws_expr <| ex_callF (ok_check_script R) (hr.mono (by decide)) R.m_check_script R.F_check_script R.b_check_script <| ea_cons <| ex_var ⟨rfl, rfl⟩ <| ea_nil <| ⟨a_one, rfl, outU (ob h) (fun z1 h => ?_) (fun _ h => dX [] h)⟩
  refine ws_expr <| ex_callF (ok_check_script R) (hr.mono (by decide)) R.m_check_script R.F_check_script R.b_check_script <| ea_cons <| ex_var ⟨rfl, rfl⟩ <| ea_nil <| ⟨a_other, rfl, outU (ob h) (fun z2 h => ?_) (fun _ h => dX [] h)⟩
  exact ws_nil (dN [] h)

theorem gcd_step {a b : Int} (ha : 0 ≤ a) (hb : 0 ≤ b) : Int.gcd b (a % b) = Int.gcd a b := by
  obtain ⟨m, rfl⟩ := Int.eq_ofNat_of_zero_le ha
  obtain ⟨n, rfl⟩ := Int.eq_ofNat_of_zero_le hb
  show Nat.gcd n (m % n) = Nat.gcd m n
  rw [Nat.gcd_comm n, ← Nat.gcd_rec, Nat.gcd_comm]
def S_divisor_of (R : Prg K mg) : Spc := fun ds M P E => ∃ a b : Int, ds = [.int a, .int b] ∧ (m_divisor_of a b).Out (fun r => P (.int r) M) (fun x => E (exE R x) M)
theorem ok_divisor_of (R : Prg K mg) : FnD PR w K mg base 1 R.f_divisor_of R.d_divisor_of P_divisor_of (S_divisor_of R) := by
  refine fn_d false R.F_divisor_of sc_divisor_of (fun h => nomatch h) (fun ds M P E ⟨a, b, e, _⟩ => by rw [e]; rfl) fun cdv A outer s H E hr ds M Pd PE h => ?_
  obtain ⟨a, b, rfl, h⟩ := h
  obtain ⟨⟨ha, hb⟩, hp⟩ := gd h
  refine ws_while (fun m τ' M' => M' = M ∧ ∃ a' b' : Int, τ' = [some (.int a'), some (.int b')] ∧ 0 ≤ a' ∧ 0 ≤ b' ∧ Int.gcd a' b' = Int.gcd a b ∧ m = b'.toNat) ⟨_, rfl, a, b, rfl, ha, hb, rfl, rfl⟩ ?_
  rintro m τ' M' ⟨rfl, a', b', rfl, h1, h2, h3, rfl⟩
  refine et_cmp (ex_var ⟨rfl, rfl⟩ (ex_int (o_neI ⟨_, rfl, fun e => ?_, fun e => ?_⟩)))
  · have e : ¬ b' = 0 := by simpa using e
    have hpos : 0 < b' := by omega
    refine ws_par <| ea_cons <| ex_var ⟨rfl, rfl⟩ <| ea_cons <| ex_bin <| ex_callTy R.n_int PyProof.Rows.Boot.«int» <| ea_cons <| ex_var ⟨rfl, rfl⟩ <| ea_nil <| c_int_i <| ex_var ⟨rfl, rfl⟩ <| o_mod hpos <| ea_nil ⟨_, _, rfl, ws_nil ?_⟩
    refine ⟨_, ?_, rfl, b', a' % b', rfl, h2, Int.emod_nonneg _ e, (gcd_step h1 h2).trans h3, rfl⟩
    have := Int.emod_lt_of_pos a' hpos
    have := Int.emod_nonneg a' e
    omega
  · have e : b' = 0 := by simpa using e
    subst e
    refine ws_ret (ex_var ⟨rfl, rfl⟩ ?_)
    have : ((Int.gcd a b : Nat) : Int) = a' := by
      rw [← h3, Int.gcd_zero_right]
      omega
    rw [this] at hp
    exact hp

def S_multiple_of (R : Prg K mg) : Spc := fun ds M P E => ∃ (a_numbers : (List Int)), ds = [((lstD Dat.int) a_numbers)] ∧ (m_multiple_of a_numbers).Out (fun r => P (.int r) M) (fun x => E (exE R x) M)
theorem ok_multiple_of (R : Prg K mg) : FnD PR w K mg base 2 R.f_multiple_of R.d_multiple_of P_multiple_of (S_multiple_of R) := by
  refine fn_d false R.F_multiple_of sc_multiple_of (fun h => nomatch h) (fun ds M P E ⟨_, e, _⟩ => by rw [e]; rfl) fun cdv A outer s H E hr ds M Pd PE h => ?_
  obtain ⟨a_numbers, rfl, h⟩ := h
  have hu := hr.units
  refine WS.ends ?_
  refine ws_set <| ex_int <| ?_
  refine ws_forT <| ei_list <| ex_var ⟨rfl, rfl⟩ <| ⟨_, rfl, foldT Dat.int (xs := a_numbers) (fun (s1 : Int) τ M' => ∃ d2, [some ((lstD Dat.int) a_numbers), some (.int s1), d2] = τ ∧ M = M') (ob h) ⟨_, rfl, rfl⟩ (fun _ _ _ _ => trivial) ?g9 ?g10⟩
  case g9 =>
    rintro x2 s1 _ _ N ⟨d2, rfl, rfl⟩ h
    refine gx_name  <| ?_
    refine ws_set <| ex_bin <| ex_bin <| ex_var ⟨rfl, rfl⟩ <| ex_callF (ok_divisor_of R) (hr.mono (by decide)) R.m_divisor_of R.F_divisor_of R.b_divisor_of <| ea_cons <| ex_var ⟨rfl, rfl⟩ <| ea_cons <| ex_var ⟨rfl, rfl⟩ <| ea_nil <| ⟨s1, x2, rfl, outU (ob h) (fun z5 h => r_div (ob h) fun z6 h => ex_var ⟨rfl, rfl⟩ <| r_mul (ob h) fun z7 h => ?_) (fun _ h => dX [] h)⟩
    exact ws_nil ⟨z7, ⟨_, rfl, rfl⟩, h⟩
  case g10 =>
    rintro s1 _ _ ⟨d2, rfl, rfl⟩ h
    exact ws_ret <| ex_var ⟨rfl, rfl⟩ <| (dN [] h)

def S_Keep_size (R : Prg K mg) : Spc := fun ds M P E => ∃ (a_self : Int), ds = [((keepD R) a_self)] ∧ (m_Keep_size a_self).Out (fun r => P (.int r) M) (fun x => E (exE R x) M)
theorem ok_Keep_size (R : Prg K mg) : FnD PR w K mg base 1 R.f_Keep_size R.d_Keep_size P_Keep_size (S_Keep_size R) := by
  refine fn_d false R.F_Keep_size sc_Keep_size (fun h => nomatch h) (fun ds M P E ⟨_, e, _⟩ => by rw [e]; rfl) fun cdv A outer s H E hr ds M Pd PE h => ?_
  obtain ⟨a_self, rfl, h⟩ := h
  have hu := hr.units
  refine WS.ends ?_
  exact ws_ret <| ex_fld <| ex_var ⟨rfl, rfl⟩ <| ⟨_, ⟨_, R.L_Keep.cl, R.A_Keep_wide, .inl ⟨_, _, rfl, rfl, rfl⟩⟩, (dN [] h)⟩

def S_Lean_size (R : Prg K mg) : Spc := fun ds M P E => ∃ (a_self : Int), ds = [((leanD R) a_self)] ∧ (m_Lean_size a_self).Out (fun r => P (.int r) M) (fun x => E (exE R x) M)
theorem ok_Lean_size (R : Prg K mg) : FnD PR w K mg base 1 R.f_Lean_size R.d_Lean_size P_Lean_size (S_Lean_size R) := by
  refine fn_d false R.F_Lean_size sc_Lean_size (fun h => nomatch h) (fun ds M P E ⟨_, e, _⟩ => by rw [e]; rfl) fun cdv A outer s H E hr ds M Pd PE h => ?_
  obtain ⟨a_self, rfl, h⟩ := h
  have hu := hr.units
  refine WS.ends ?_
  exact ws_ret <| ex_fld <| ex_var ⟨rfl, rfl⟩ <| ⟨_, ⟨_, R.L_Lean.cl, R.A_Lean_wide, .inl ⟨_, _, rfl, rfl, rfl⟩⟩, (dN [] h)⟩

def S_Dig_size (R : Prg K mg) : Spc := fun ds M P E => ∃ (a_self : Int), ds = [((digD R) a_self)] ∧ (m_Dig_size a_self).Out (fun r => P (.int r) M) (fun x => E (exE R x) M)
theorem ok_Dig_size (R : Prg K mg) : FnD PR w K mg base 1 R.f_Dig_size R.d_Dig_size P_Dig_size (S_Dig_size R) := by
  refine fn_d false R.F_Dig_size sc_Dig_size (fun h => nomatch h) (fun ds M P E ⟨_, e, _⟩ => by rw [e]; rfl) fun cdv A outer s H E hr ds M Pd PE h => ?_
  obtain ⟨a_self, rfl, h⟩ := h
  have hu := hr.units
  refine WS.ends ?_
  exact ws_ret <| ex_fld <| ex_var ⟨rfl, rfl⟩ <| ⟨_, ⟨_, R.L_Dig.cl, R.A_Dig_wide, .inl ⟨_, _, rfl, rfl, rfl⟩⟩, (dN [] h)⟩

theorem pr_Step_size (R : Prg K mg) (s : StepT) {A : Around} (hr : Room 2 A) : PrD PR w K mg base A "size" (stepD R s) (m_Step_size s) Dat.int := by
  intro M P E1 h
  cases s with
  | full => exact h.elim
  | keep n => exact ⟨_, _, _, _, _, _, _, R.L_Keep.cl, R.V_Keep_size, ok_Keep_size R, hr.mono (by decide), R.b_Keep_size, ⟨"", fun M => .inl ⟨_, _, rfl, by decide⟩⟩, ⟨n, rfl, out_mono (ne_out (E' := fun _ => False) h) (fun r q => UpP.mk q) (fun _ z => z.elim)⟩⟩
  | lean n => exact ⟨_, _, _, _, _, _, _, R.L_Lean.cl, R.V_Lean_size, ok_Lean_size R, hr.mono (by decide), R.b_Lean_size, ⟨"", fun M => .inl ⟨_, _, rfl, by decide⟩⟩, ⟨n, rfl, out_mono (ne_out (E' := fun _ => False) h) (fun r q => UpP.mk q) (fun _ z => z.elim)⟩⟩
  | dig n => exact ⟨_, _, _, _, _, _, _, R.L_Dig.cl, R.V_Dig_size, ok_Dig_size R, hr.mono (by decide), R.b_Dig_size, ⟨"", fun M => .inl ⟨_, _, rfl, by decide⟩⟩, ⟨n, rfl, out_mono (ne_out (E' := fun _ => False) h) (fun r q => UpP.mk q) (fun _ z => z.elim)⟩⟩

def S_Script_period (R : Prg K mg) : Spc := fun ds M P E => ∃ (a_self : (List StepT)), ds = [((scriptD R) a_self)] ∧ (m_Script_period a_self).Out (fun r => P (.int r) M) (fun x => E (exE R x) M)
theorem ok_Script_period (R : Prg K mg) : FnD PR w K mg base 3 R.f_Script_period R.d_Script_period P_Script_period (S_Script_period R) := by
  refine fn_d false R.F_Script_period sc_Script_period (fun h => nomatch h) (fun ds M P E ⟨_, e, _⟩ => by rw [e]; rfl) fun cdv A outer s H E hr ds M Pd PE h => ?_
  obtain ⟨a_self, rfl, h⟩ := h
  have hu := hr.units
  refine WS.ends ?_
  exact ws_ret <| ex_callF (ok_multiple_of R) (hr.mono (by decide)) R.m_multiple_of R.F_multiple_of R.b_multiple_of <| ea_cons <| ex_lcT [("step", 1)] <| ei_tup <| ex_fld <| ex_var ⟨rfl, rfl⟩ <| ⟨_, ⟨_, R.L_Script.cl, R.A_Script_rows, .inl ⟨_, _, rfl, rfl, rfl⟩⟩, ⟨_, rfl, compT (stepD R) Dat.int (xs := a_self) (ob h) trivial (fun x1 _ h s H C cl fp => gc_name  <| fun s H C cl fp => ef_one <| et_not <| et_val <| ex_callB R.n_isinstance PyProof.Rows.Boot.«isinstance» <| ea_cons <| ex_var ⟨rfl, rfl⟩ <| ea_cons <| ex_gref R.mc_Full <| ea_nil <| c_isx (.own _) (isin_Full R x1) <| ⟨_, rfl, cifN h (fun h => ⟨rfl, h⟩) (fun h => fun s H C cl fp => ex_propD <| ex_var ⟨rfl, rfl⟩ <| prD (pr_Step_size R x1 (hr.mono (by decide))) (ob h) fun z2 h => ⟨rfl, z2, rfl, h⟩)⟩) (fun l3 h => ea_nil <| ⟨l3, rfl, outU (ob h) (fun z4 h => (dN [] h)) (fun _ h => dX [] h)⟩)⟩⟩

def S_holds_in (R : Prg K mg) : Spc := fun ds M P E => ∃ (a_one : (Int × Int)) (a_other : (Int × Int)), ds = [((pairD Dat.int Dat.int) a_one), ((pairD Dat.int Dat.int) a_other)] ∧ (m_holds_in a_one a_other).Out (fun r => P (.bl r) M) (fun x => E (exE R x) M)
theorem ok_holds_in (R : Prg K mg) : FnD PR w K mg base 1 R.f_holds_in R.d_holds_in P_holds_in (S_holds_in R) := by
  refine fn_d false R.F_holds_in sc_holds_in (fun h => nomatch h) (fun ds M P E ⟨_, _, e, _⟩ => by rw [e]; rfl) fun cdv A outer s H E hr ds M Pd PE h => ?_
  obtain ⟨a_one, a_other, rfl, h⟩ := h
  have hu := hr.units
  refine WS.ends ?_
  exact ws_ret <| exJ Dat.bl (ob h) (fun h => exA h (fun _ h => ex_cmp <| ex_bin <| ex_ix <| ex_var ⟨rfl, rfl⟩ <| ex_int <| i_tup rfl <| ex_ix <| ex_var ⟨rfl, rfl⟩ <| ex_int <| i_tup rfl <| o_band <| ex_ix <| ex_var ⟨rfl, rfl⟩ <| ex_int <| i_tup rfl <| o_eqI <| ⟨rfl, (decide ((Builtin.bitAnd a_one.1 a_other.1) = a_one.1)), rfl, h⟩) (fun h => ex_and1 <| ex_cmp <| ex_bin <| ex_ix <| ex_var ⟨rfl, rfl⟩ <| ex_int <| i_tup rfl <| ex_ix <| ex_var ⟨rfl, rfl⟩ <| ex_int <| i_tup rfl <| o_band <| ex_ix <| ex_var ⟨rfl, rfl⟩ <| ex_int <| i_tup rfl <| o_eqI <| ⟨rfl, (decide ((Builtin.bitAnd a_one.2 a_other.2) = a_one.2)), rfl, h⟩)) fun z1 h => (dN [] h)

def S_is_held__v2 (R : Prg K mg) : Spc := fun ds M P E => ∃ (P_rows : Addr) (a_rows : (List (Int × Int))) (a_other : (Int × Int)) (M0 : Mem), ds = [.raw (.ref P_rows), ((pairD Dat.int Dat.int) a_other)] ∧ M = (P_rows, .lst (a_rows.map (pairD Dat.int Dat.int))) :: M0 ∧ (m_is_held__v2 a_rows a_other).Out (fun r => P (.bl r) M) (fun x => E (exE R x) M)
theorem ok_is_held__v2 (R : Prg K mg) : FnD PR w K mg base 2 R.f_is_held R.d_is_held P_is_held (S_is_held__v2 R) := by
  refine fn_d false R.F_is_held sc_is_held (fun h => nomatch h) (fun ds M P E ⟨_, _, _, _, e, _⟩ => by rw [e]; rfl) fun cdv A outer s H E hr ds M Pd PE h => ?_
  obtain ⟨P_rows, a_rows, a_other, M0, rfl, rfl, h⟩ := h
  have hu := hr.units
  refine WS.ends ?_
  refine ws_forT <| ei_cell <| ex_var ⟨rfl, rfl⟩ <| ⟨_, _, rfl, List.mem_cons_self, forT (pairD Dat.int Dat.int) (xs := a_rows) (fun (s1 : Unit) τ M' => ∃ d2, [some (.raw (.ref P_rows)), some ((pairD Dat.int Dat.int) a_other), d2] = τ ∧ (P_rows, .lst (a_rows.map (pairD Dat.int Dat.int))) :: M0 = M') (ob h) ⟨_, rfl, rfl⟩ (fun _ _ _ ⟨_, _, e⟩ => e ▸ List.mem_cons_self) ?g8 ?g9⟩
  case g8 =>
    rintro x2 s1 _ _ N ⟨d2, rfl, rfl⟩ h hrt3
    refine gx_name  <| ?_
    refine ws_if <| et_val <| ex_callF (ok_holds_in R) (hr.mono (by decide)) R.m_holds_in R.F_holds_in R.b_holds_in <| ea_cons <| ex_var ⟨rfl, rfl⟩ <| ea_cons <| ex_var ⟨rfl, rfl⟩ <| ea_nil <| ⟨x2, a_other, rfl, outU (ob h) (fun z5 h => ⟨_, rfl, cif h (fun h => ?g6) (fun h => ?g7)⟩) (fun _ h => dX [] h)⟩
    case g6 =>
      exact ws_ret <| ex_bl <| (dN [] (hrt3 _ h))
    case g7 =>
      refine ws_nil ?_
      exact ws_nil ⟨(), ⟨_, rfl, rfl⟩, h⟩
  case g9 =>
    rintro s1 _ _ ⟨d2, rfl, rfl⟩ h
    replace h := finO h
    exact ws_ret <| ex_bl <| (dN [] h)

def S_least_of (R : Prg K mg) : Spc := fun ds M P E => ∃ (a_rows : (List (Int × Int))), ds = [((lstD (pairD Dat.int Dat.int)) a_rows)] ∧ (m_least_of a_rows).Out (fun r => P ((lstD (pairD Dat.int Dat.int)) r) M) (fun x => E (exE R x) M)
theorem ok_least_of (R : Prg K mg) : FnD PR w K mg base 3 R.f_least_of R.d_least_of P_least_of (S_least_of R) := by
  refine fn_d false R.F_least_of sc_least_of (fun h => nomatch h) (fun ds M P E ⟨_, e, _⟩ => by rw [e]; rfl) fun cdv A outer s H E hr ds M Pd PE h => ?_
  obtain ⟨a_rows, rfl, h⟩ := h
  have hu := hr.units
  refine WS.ends ?_
  refine ws_set <| ex_lstC <| ea_nil ⟨ln, fun q1 _ => ?_⟩
  refine ws_forT <| ei_list <| ex_srtSetT R.n_sorted R.n_set hu <| ex_var ⟨rfl, rfl⟩ <| ⟨a_rows, rfl, _, _, (ob h), fun z2 h => ⟨_, rfl, foldT (pairD Dat.int Dat.int) (xs := z2) (fun (s3 : (List (Int × Int))) τ M' => ∃ d2, [some ((lstD (pairD Dat.int Dat.int)) a_rows), some (.raw (.ref q1)), d2] = τ ∧ (q1, .lst (s3.map (pairD Dat.int Dat.int))) :: M = M') (ob h) ⟨_, rfl, rfl⟩ (fun _ _ _ _ => trivial) ?g14 ?g15⟩⟩
  case g14 =>
    rintro x4 s3 _ _ N ⟨d2, rfl, rfl⟩ h
    refine gx_name  <| ?_
    refine ws_ifJ (fun Q τ M' => ∃ s7 : (List (Int × Int)), [some ((lstD (pairD Dat.int Dat.int)) a_rows), some (.raw (.ref q1)), some ((pairD Dat.int Dat.int) x4)] = τ ∧ (q1, .lst (s7.map (pairD Dat.int Dat.int))) :: M = M' ∧ Q s7) (ob h) (fun h => et_not <| et_val <| ex_callF (ok_is_held__v2 R) (hr.mono (by decide)) R.m_is_held R.F_is_held R.b_is_held <| ea_cons <| ex_var ⟨rfl, rfl⟩ <| ea_cons <| ex_var ⟨rfl, rfl⟩ <| ea_nil <| ⟨q1, s3, x4, _, rfl, rfl, outU (ob h) (fun z8 h => ⟨_, rfl, cifN h (fun h => ?g12) (fun h => ?g11)⟩) (fun _ h => dX [_] h)⟩) ?k13
    case g11 =>
      refine ws_expr <| r_app [] (pairD Dat.int Dat.int) (xs := s3) <| ex_var ⟨rfl, rfl⟩ ⟨rfl, rfl, ea_cons <| ex_var ⟨rfl, rfl⟩ <| ea_nil <| b_app [] (pairD Dat.int Dat.int) (xs := s3) (x := x4) (ob h) fun z9 h => ?_⟩
      exact ws_nil ⟨z9, rfl, rfl, h⟩
    case g12 =>
      exact ws_nil ⟨s3, rfl, rfl, h⟩
    case k13 =>
      rintro _ _ ⟨s7, rfl, rfl, h⟩
      exact ws_nil ⟨s7, ⟨_, rfl, rfl⟩, h⟩
  case g15 =>
    rintro s3 _ _ ⟨d2, rfl, rfl⟩ h
    exact ws_ret <| ex_frz <| ex_var ⟨rfl, rfl⟩ ⟨_, _, _, rfl, (List.perm_middle (l₁ := [])), (dN [] h)⟩

def S_dug (R : Prg K mg) : Spc := fun ds M P E => ∃ (a_rows : (List (Int × Int))) (a_bits : (List Int)), ds = [((lstD (pairD Dat.int Dat.int)) a_rows), ((lstD Dat.int) a_bits)] ∧ (m_dug a_rows a_bits).Out (fun r => P ((lstD (pairD Dat.int Dat.int)) r) M) (fun x => E (exE R x) M)
theorem ok_dug (R : Prg K mg) : FnD PR w K mg base 6 R.f_dug R.d_dug P_dug (S_dug R) := by
  refine fn_d false R.F_dug sc_dug (fun h => nomatch h) (fun ds M P E ⟨_, _, e, _⟩ => by rw [e]; rfl) fun cdv A outer s H E hr ds M Pd PE h => ?_
  obtain ⟨a_rows, a_bits, rfl, h⟩ := h
  have hu := hr.units
  refine WS.ends ?_
  refine ws_if <| et_cmp <| ex_lcT [("row", 5)] <| ei_list <| ex_var ⟨rfl, rfl⟩ <| ⟨_, rfl, compT (pairD Dat.int Dat.int) (pairD Dat.int Dat.int) (xs := a_rows) (ob h) trivial (fun x1 _ h s H C cl fp => gc_name <| fun s H C cl fp => ef_one <| et_cmp <| ex_bin <| ex_ix <| ex_var ⟨rfl, rfl⟩ <| ex_int <| i_tup rfl <| ex_callB R.n_sum PyProof.Rows.Boot.«sum» <| ea_cons <| ex_var ⟨rfl, rfl⟩ <| ea_nil <| c_sumT (ns := a_bits) <| o_band <| ex_int <| o_eqI <| ⟨_, rfl, cif h (fun h => fun s H C cl fp => ex_var ⟨rfl, rfl⟩ ⟨rfl, x1, rfl, h⟩) (fun h => ⟨rfl, h⟩)⟩) (fun l h => ex_lst <| ea_nil ⟨ln, r_eqNilT (pairD Dat.int Dat.int) hu <| ⟨_, rfl, cif h (fun h => ?g1) (fun h => ?g2)⟩⟩)⟩
  case g1 => exact ws_ret <| ex_var ⟨rfl, rfl⟩ <| dN [] h
  case g2 =>
    refine ws_nil ?_
    refine ws_set <| ex_lstC <| ea_nil ⟨ln, fun q1 _ => ?_⟩
    refine ws_forT <| ei_list <| ex_var ⟨rfl, rfl⟩ <| ⟨_, rfl, foldT (pairD Dat.int Dat.int) (xs := a_rows) (fun (s3 : (List (Int × Int))) τ M' => ∃ q d1 d2 d3 d4, [some ((lstD (pairD Dat.int Dat.int)) a_rows), some ((lstD Dat.int) a_bits), some (.raw (.ref q)), d1, d2, d3, d4] = τ ∧ (q, .lst (s3.map (pairD Dat.int Dat.int))) :: M = M') (ob h) ⟨_, _, _, _, _, rfl, rfl⟩ (fun _ _ _ _ => trivial) ?g14 ?g15⟩
    case g14 =>
      rintro x s3 _ _ N ⟨q, d1, d2, d3, d4, rfl, rfl⟩ h
      refine gx_tup <| gxs_cons <| gx_name <| gxs_cons <| gx_name <| gxs_nil ?_
      refine ws_if <| et_cmp <| ex_bin <| ex_var ⟨rfl, rfl⟩ <| ex_callB R.n_sum PyProof.Rows.Boot.«sum» <| ea_cons <| ex_var ⟨rfl, rfl⟩ <| ea_nil <| c_sumT (ns := a_bits) <| o_band <| ex_int <| o_neI <| ⟨_, rfl, cif h (fun h => ?b1) (fun h => ?b2)⟩
      case b1 =>
        refine ws_expr <| r_app [] (pairD Dat.int Dat.int) (xs := s3) <| ex_var ⟨rfl, rfl⟩ ⟨rfl, rfl, ea_cons <| ex_tup <| ea_cons <| ex_var ⟨rfl, rfl⟩ <| ea_cons <| ex_var ⟨rfl, rfl⟩ <| ea_nil ⟨ln, ea_nil <| b_app [] (pairD Dat.int Dat.int) (xs := s3) (x := (x.1, x.2)) h fun z9 h => ?_⟩⟩
        exact ws_nil <| ws_nil ⟨z9, ⟨_, _, _, _, _, rfl, rfl⟩, h⟩
      case b2 =>
        refine ws_set <| ex_bin <| ex_var ⟨rfl, rfl⟩ <| ex_lcT [("bit", 6)] <| ei_list <| ex_var ⟨rfl, rfl⟩ <| ⟨_, rfl, compT Dat.int (pairD Dat.int Dat.int) (xs := a_bits) (ob h) trivial (fun x1 _ h s H C cl fp => gc_name <| fun s H C cl fp => ef_nil ⟨fun _ s H C cl fp => ex_tup <| ea_cons <| ex_bin <| ex_var ⟨rfl, rfl⟩ <| ex_var ⟨rfl, rfl⟩ <| o_bor <| ea_cons <| ex_bin <| ex_var ⟨rfl, rfl⟩ <| ex_var ⟨rfl, rfl⟩ <| o_bor <| ea_nil ⟨ln, rfl, _, rfl, h⟩, fun z => nomatch z⟩) (fun l2 h => ?c)⟩
        have g := gd h
        refine o_catNew (xs := s3.map (pairD Dat.int Dat.int)) (ys := l2.map (pairD Dat.int Dat.int)) (.inr ⟨q, rfl, List.mem_cons_self⟩) (.inl rfl) (by rw [List.length_map, List.length_map]; exact g.1) fun q' => ?_
        refine ws_drop (A := (q', .lst (s3.map (pairD Dat.int Dat.int) ++ l2.map (pairD Dat.int Dat.int))) :: M) (B := [_]) (List.Perm.cons _ (List.perm_append_comm (l₁ := [_]))) ?_
        refine ws_nil <| ws_nil ⟨s3 ++ l2, ⟨q', _, _, _, _, rfl, ?_⟩, g.2⟩
        rw [List.map_append]
    case g15 =>
      rintro s3 _ _ ⟨q, d1, d2, d3, d4, rfl, rfl⟩ h
      refine ws_frz 2 rfl (List.Perm.refl _) ?_
      exact ws_ret <| ex_callF (ok_least_of R) (hr.mono (by decide)) R.m_least_of R.F_least_of R.b_least_of <| ea_cons <| ex_var ⟨rfl, rfl⟩ <| ea_nil ⟨s3, rfl, outU (ob h) (fun z h => dN [] h) (fun _ h => dX [] h)⟩

def S_behind_step (R : Prg K mg) : Spc := fun ds M P E => ∃ (a_step : StepT) (a_table : (List (List (Int × Int)))), ds = [((stepD R) a_step), ((lstD (lstD (pairD Dat.int Dat.int))) a_table)] ∧ (m_behind_step a_step a_table).Out (fun r => P ((lstD (lstD (pairD Dat.int Dat.int))) r) M) (fun x => E (exE R x) M)
theorem ok_behind_step (R : Prg K mg) : FnD PR w K mg base 7 R.f_behind_step R.d_behind_step P_behind_step (S_behind_step R) := by
  refine fn_d false R.F_behind_step sc_behind_step (fun h => nomatch h) (fun ds M P E ⟨_, _, e, _⟩ => by rw [e]; rfl) fun cdv A outer s H E hr ds M Pd PE h => ?_
  obtain ⟨a_step, a_table, rfl, h⟩ := h
  have hu := hr.units
  refine WS.ends ?_
  refine ws_if <| et_val <| ex_callB R.n_isinstance PyProof.Rows.Boot.«isinstance» <| ea_cons <| ex_var ⟨rfl, rfl⟩ <| ea_cons <| ex_gref R.mc_Full <| ea_nil <| c_isx (.own _) (isin_Full R a_step) <| ⟨_, rfl, cif h (fun h => ?g3) (fun h => ?g44)⟩
  case g3 =>
    exact ws_ret <| ex_lcT [("rows", 7)] <| ei_list <| ex_var ⟨rfl, rfl⟩ <| ⟨_, rfl, compT (lstD (pairD Dat.int Dat.int)) (lstD (pairD Dat.int Dat.int)) (xs := a_table) (ob h) trivial (fun x1 _ h s H C cl fp => gc_name  <| fun s H C cl fp => ef_nil ⟨fun _ s H C cl fp => ex_lst <| ea_cons <| ex_tup <| ea_cons <| ex_int <| ea_cons <| ex_int <| ea_nil ⟨ln, ea_nil ⟨ln, ⟨rfl, ([((0 : Int), (0 : Int))] : List (Int × Int)), rfl, h⟩⟩⟩, fun z => nomatch z⟩) (fun l2 h => (dN [] h))⟩
  case g44 =>
    refine ws_nil ?_
    refine ws_set <| ex_lst <| ea_nil ⟨ln, ?_⟩
    refine ws_forT <| ei_rng3 R.n_range <| ex_int <| ex_callB R.n_len PyProof.Rows.Boot.«len» <| ea_cons <| ex_var ⟨rfl, rfl⟩ <| ea_nil <| c_lenT (lstD (pairD Dat.int Dat.int)) (xs := a_table) <| ex_propD <| ex_var ⟨rfl, rfl⟩ <| prD (pr_Step_size R a_step (hr.mono (by decide))) (ob h) fun z4 h => ⟨(0 : Int), (a_table.length : Int), z4, rfl, rfl, rfl, (gd (ob h)).1, have h := (gd (ob h)).2; foldT Dat.int (xs := (rangeC (0 : Int) z4 (Int.toNat (((a_table.length : Int) - (0 : Int) + z4 - 1) / z4)))) (fun (s5 : (List (List (Int × Int)))) τ M' => ∃ d3 d4 d5 d6 d7 d8 d9 d10, [some ((stepD R) a_step), some ((lstD (lstD (pairD Dat.int Dat.int))) a_table), some ((lstD (lstD (pairD Dat.int Dat.int))) s5), d3, d4, d5, d6, d7, d8, d9, d10] = τ ∧ M = M') (ob h) ⟨_, _, _, _, _, _, _, _, rfl, rfl⟩ (fun _ _ _ _ => trivial) ?g41 ?g42⟩
    case g41 =>
      rintro x6 s5 _ _ N ⟨d3, d4, d5, d6, d7, d8, d9, d10, rfl, rfl⟩ h
      refine gx_name  <| ?_
      refine ws_set <| ex_sl <| ex_var ⟨rfl, rfl⟩ <| ep_some <| ex_var ⟨rfl, rfl⟩ <| ⟨_, rfl, ep_some <| ex_bin <| ex_var ⟨rfl, rfl⟩ <| ex_propD <| ex_var ⟨rfl, rfl⟩ <| prD (pr_Step_size R a_step (hr.mono (by decide))) (ob h) fun z9 h => o_add <| ⟨_, rfl, l_lstT (lstD (pairD Dat.int Dat.int)) (xs := a_table) <| ?_⟩⟩
      refine ws_set <| ex_lcT [("at", 8)] <| ei_rng2 R.n_range <| ex_var ⟨rfl, rfl⟩ <| ex_bin <| ex_var ⟨rfl, rfl⟩ <| ex_callB R.n_len PyProof.Rows.Boot.«len» <| ea_cons <| ex_var ⟨rfl, rfl⟩ <| ea_nil <| c_lenT (lstD (pairD Dat.int Dat.int)) (xs := (cutD a_table (some x6) (some (x6 + z9)))) <| o_add <| ⟨x6, (x6 + ((cutD a_table (some x6) (some (x6 + z9))).length : Int)), rfl, rfl, (gd (ob h)).1, have h := (gd (ob h)).2; compT Dat.int Dat.int (xs := (rangeL x6 (Int.toNat ((x6 + ((cutD a_table (some x6) (some (x6 + z9))).length : Int)) - x6)))) (ob h) trivial (fun x10 _ h s H C cl fp => gc_name  <| fun s H C cl fp => ef_nil ⟨fun _ s H C cl fp => ex_bin <| ex_int <| ex_var ⟨rfl, rfl⟩ <| r_shl (ob h) fun z11 h => ⟨rfl, z11, rfl, h⟩, fun z => nomatch z⟩) (fun l12 h => ?_)⟩
      refine ws_ifJ (fun Q τ M' => ∃ s13 : (List (List (Int × Int))), ∃ d6 d7 d8 d9 d10, [some ((stepD R) a_step), some ((lstD (lstD (pairD Dat.int Dat.int))) a_table), some ((lstD (lstD (pairD Dat.int Dat.int))) s13), some (.int x6), some ((lstD (lstD (pairD Dat.int Dat.int))) (cutD a_table (some x6) (some (x6 + z9)))), some ((lstD Dat.int) l12), d6, d7, d8, d9, d10] = τ ∧ M = M' ∧ Q s13) (ob h) (fun h => et_val <| ex_callB R.n_isinstance PyProof.Rows.Boot.«isinstance» <| ea_cons <| ex_var ⟨rfl, rfl⟩ <| ea_cons <| ex_gref R.mc_Keep <| ea_nil <| c_isx (.own _) (isin_Keep R a_step) <| ⟨_, rfl, cif h (fun h => ?g21) (fun h => ?g37)⟩) ?k38
      case g21 =>
        refine ws_set <| ex_callF (ok_least_of R) (hr.mono (by decide)) R.m_least_of R.F_least_of R.b_least_of <| ea_cons <| ex_flat [("rows", 7), ("row", 9)] [9] <| ei_list <| ex_var ⟨rfl, rfl⟩ <| ⟨_, rfl, flatT (pairD Dat.int Dat.int) (xss := (cutD a_table (some x6) (some (x6 + z9)))) (ob h) trivial (fun ds s H C cl fp => gc_name ⟨rfl, (fun s H C cl fp => ei_list <| ex_var ⟨rfl, rfl⟩ ⟨_, rfl, rfl, rfl, trivial⟩), fun d s H C cl fp => gc_name ⟨rfl, fun s H C cl fp => ex_var ⟨rfl, rfl⟩ ⟨rfl, rfl⟩⟩⟩) fun l14 h => ea_nil <| ⟨l14, rfl, outU (ob h) (fun z15 h => ?_) (fun _ h => dX [] h)⟩⟩
        refine ws_set <| ex_bin <| ex_var ⟨rfl, rfl⟩ <| ex_lcT [("rows", 7)] <| ei_list <| ex_var ⟨rfl, rfl⟩ <| ⟨_, rfl, compT (lstD (pairD Dat.int Dat.int)) (lstD (pairD Dat.int Dat.int)) (xs := (cutD a_table (some x6) (some (x6 + z9)))) (ob h) trivial (fun x16 _ h s H C cl fp => gc_name  <| fun s H C cl fp => ef_nil ⟨fun _ s H C cl fp => ex_var ⟨rfl, rfl⟩ <| ⟨rfl, z15, rfl, h⟩, fun z => nomatch z⟩) (fun l17 h => r_catL (lstD (pairD Dat.int Dat.int)) (xs := s5) (ys := l17) (ob h) fun z18 h => ?_)⟩
        exact ws_nil ⟨z18, _, _, _, _, _, rfl, rfl, h⟩
      case g37 =>
        refine ws_ifJ (fun Q τ M' => ∃ s22 : (List (List (Int × Int))), ∃ d6 d7 d8 d9 d10, [some ((stepD R) a_step), some ((lstD (lstD (pairD Dat.int Dat.int))) a_table), some ((lstD (lstD (pairD Dat.int Dat.int))) s22), some (.int x6), some ((lstD (lstD (pairD Dat.int Dat.int))) (cutD a_table (some x6) (some (x6 + z9)))), some ((lstD Dat.int) l12), d6, d7, d8, d9, d10] = τ ∧ M = M' ∧ Q s22) (ob h) (fun h => et_val <| ex_callB R.n_isinstance PyProof.Rows.Boot.«isinstance» <| ea_cons <| ex_var ⟨rfl, rfl⟩ <| ea_cons <| ex_gref R.mc_Dig <| ea_nil <| c_isx (.own _) (isin_Dig R a_step) <| ⟨_, rfl, cif h (fun h => ?g28) (fun h => ?g35)⟩) ?k36
        case g28 =>
          refine ws_set <| ex_bin <| ex_var ⟨rfl, rfl⟩ <| ex_lcT [("rows", 7)] <| ei_list <| ex_var ⟨rfl, rfl⟩ <| ⟨_, rfl, compT (lstD (pairD Dat.int Dat.int)) (lstD (pairD Dat.int Dat.int)) (xs := (cutD a_table (some x6) (some (x6 + z9)))) (ob h) trivial (fun x23 _ h s H C cl fp => gc_name  <| fun s H C cl fp => ef_nil ⟨fun _ s H C cl fp => ex_callF (ok_dug R) (hr.mono (by decide)) R.m_dug R.F_dug R.b_dug <| ea_cons <| ex_var ⟨rfl, rfl⟩ <| ea_cons <| ex_var ⟨rfl, rfl⟩ <| ea_nil <| ⟨x23, l12, rfl, outU (ob h) (fun z24 h => ⟨rfl, z24, rfl, h⟩) (fun _ h => h)⟩, fun z => nomatch z⟩) (fun l25 h => r_catL (lstD (pairD Dat.int Dat.int)) (xs := s5) (ys := l25) (ob h) fun z26 h => ?_)⟩
          exact ws_nil ⟨z26, _, _, _, _, _, rfl, rfl, h⟩
        case g35 =>
          refine ws_set <| ex_bin <| ex_var ⟨rfl, rfl⟩ <| ex_lcT [("rows", 7)] <| ei_list <| ex_var ⟨rfl, rfl⟩ <| ⟨_, rfl, compT (lstD (pairD Dat.int Dat.int)) (lstD (pairD Dat.int Dat.int)) (xs := (cutD a_table (some x6) (some (x6 + z9)))) (ob h) trivial (fun x29 _ h s H C cl fp => gc_name  <| fun s H C cl fp => ef_nil ⟨fun _ s H C cl fp => ex_lcT [("bit", 10)] <| ei_list <| ex_var ⟨rfl, rfl⟩ <| ⟨_, rfl, compT Dat.int (pairD Dat.int Dat.int) (xs := l12) (ob h) trivial (fun x30 _ h s H C cl fp => gc_name  <| fun s H C cl fp => ef_nil ⟨fun _ s H C cl fp => ex_tup <| ea_cons <| ex_var ⟨rfl, rfl⟩ <| ea_cons <| ex_var ⟨rfl, rfl⟩ <| ea_nil ⟨ln, ⟨rfl, (x30, x30), rfl, h⟩⟩, fun z => nomatch z⟩) (fun l31 h => ⟨rfl, l31, rfl, h⟩)⟩, fun z => nomatch z⟩) (fun l32 h => r_catL (lstD (pairD Dat.int Dat.int)) (xs := s5) (ys := l32) (ob h) fun z33 h => ?_)⟩
          exact ws_nil ⟨z33, _, _, _, _, _, rfl, rfl, h⟩
        case k36 =>
          rintro _ _ ⟨s22, d6, d7, d8, d9, d10, rfl, rfl, h⟩
          exact ws_nil ⟨s22, _, _, _, _, _, rfl, rfl, h⟩
      case k38 =>
        rintro _ _ ⟨s13, d6, d7, d8, d9, d10, rfl, rfl, h⟩
        exact ws_nil ⟨s13, ⟨_, _, _, _, _, _, _, _, rfl, rfl⟩, h⟩
    case g42 =>
      rintro s5 _ _ ⟨d3, d4, d5, d6, d7, d8, d9, d10, rfl, rfl⟩ h
      exact ws_ret <| ex_var ⟨rfl, rfl⟩ <| (dN [] h)

def S_reason_table (R : Prg K mg) : Spc := fun ds M P E => ∃ (a_script : (List StepT)), ds = [((scriptD R) a_script)] ∧ (m_reason_table a_script).Out (fun r => P ((lstD (lstD (pairD Dat.int Dat.int))) r) M) (fun x => E (exE R x) M)
theorem ok_reason_table (R : Prg K mg) : FnD PR w K mg base 8 R.f_reason_table R.d_reason_table P_reason_table (S_reason_table R) := by
  refine fn_d false R.F_reason_table sc_reason_table (fun h => nomatch h) (fun ds M P E ⟨_, e, _⟩ => by rw [e]; rfl) fun cdv A outer s H E hr ds M Pd PE h => ?_
  obtain ⟨a_script, rfl, h⟩ := h
  have hu := hr.units
  refine WS.ends ?_
  refine ws_setLcT [("at", 3)] <| ei_rng1 R.n_range <| ex_prop R.L_Script.cl R.V_Script_period (ok_Script_period R) (hr.mono (by decide)) R.b_Script_period <| ex_var ⟨rfl, rfl⟩ <| ⟨⟨"", .inl ⟨_, _, rfl, by decide⟩⟩, ap_all ⟨a_script, rfl, outU (ne_out (E' := fun _ => False) (ob h)) (fun z1 h => ⟨z1, rfl, (gd (ob h)).1, have h := (gd (ob h)).2; compT Dat.int (lstD (pairD Dat.int Dat.int)) (xs := (rangeL 0 (Int.toNat z1))) (ob h) trivial (fun x2 _ h s H C cl fp => gc_name  <| fun s H C cl fp => ef_nil ⟨fun _ s H C cl fp => ex_lst <| ea_cons <| ex_tup <| ea_cons <| ex_bin <| ex_int <| ex_var ⟨rfl, rfl⟩ <| r_shl (ob h) fun z3 h => ea_cons <| ex_int <| ea_nil ⟨ln, ea_nil ⟨ln, ⟨rfl, ([(z3, (0 : Int))] : List (Int × Int)), rfl, h⟩⟩⟩, fun z => nomatch z⟩) (fun l4 h => ?_)⟩) (fun _ h => h.elim)⟩⟩
  refine ws_forT <| ei_ownT R.F_Script_iter sc_Script_iter rfl R.M_Script_iter R.L_Script.cl R.A_Script_rows R.n_iter (hr.mono (by decide)) R.b_Script_iter rfl (by first | exact Or.inl rfl | exact Or.inr (Or.inl rfl) | exact Or.inr (Or.inr rfl)) (by intro _ _ _; rfl) <| ex_var ⟨rfl, rfl⟩ <| ⟨_, rfl, foldT (stepD R) (xs := a_script) (fun (s5 : (List (List (Int × Int)))) τ M' => ∃ d2 d3, [some ((scriptD R) a_script), some ((lstD (lstD (pairD Dat.int Dat.int))) s5), d2, d3] = τ ∧ M = M') (ob h) ⟨_, _, rfl, rfl⟩ (fun _ _ _ _ => trivial) ?g11 ?g12⟩
  case g11 =>
    rintro x6 s5 _ _ N ⟨d2, d3, rfl, rfl⟩ h
    refine gx_name  <| ?_
    refine ws_set <| ex_callF (ok_behind_step R) (hr.mono (by decide)) R.m_behind_step R.F_behind_step R.b_behind_step <| ea_cons <| ex_var ⟨rfl, rfl⟩ <| ea_cons <| ex_var ⟨rfl, rfl⟩ <| ea_nil <| ⟨x6, s5, rfl, outU (ob h) (fun z9 h => ?_) (fun _ h => dX [] h)⟩
    exact ws_nil ⟨z9, ⟨_, _, rfl, rfl⟩, h⟩
  case g12 =>
    rintro s5 _ _ ⟨d2, d3, rfl, rfl⟩ h
    exact ws_ret <| ex_var ⟨rfl, rfl⟩ <| (dN [] h)

def S_moved_table (R : Prg K mg) : Spc := fun ds M P E => ∃ (a_script : (List StepT)) (a_length : Int), ds = [((scriptD R) a_script), (.int a_length)] ∧ (m_moved_table a_script a_length).Out (fun r => P ((lstD (lstD (pairD Dat.int Dat.int))) r) M) (fun x => E (exE R x) M)
theorem ok_moved_table (R : Prg K mg) : FnD PR w K mg base 9 R.f_moved_table R.d_moved_table P_moved_table (S_moved_table R) := by
  refine fn_d false R.F_moved_table sc_moved_table (fun h => nomatch h) (fun ds M P E ⟨_, _, e, _⟩ => by rw [e]; rfl) fun cdv A outer s H E hr ds M Pd PE h => ?_
  obtain ⟨a_script, a_length, rfl, h⟩ := h
  have hu := hr.units
  refine WS.ends ?_
  refine ws_set <| ex_callF (ok_reason_table R) (hr.mono (by decide)) R.m_reason_table R.F_reason_table R.b_reason_table <| ea_cons <| ex_var ⟨rfl, rfl⟩ <| ea_nil <| ⟨a_script, rfl, outU (ob h) (fun z1 h => ?_) (fun _ h => dX [] h)⟩
  refine ws_set <| ex_lst <| ea_nil ⟨ln, ?_⟩
  refine ws_forT <| ei_rng3 R.n_range <| ex_int <| ex_var ⟨rfl, rfl⟩ <| ex_callB R.n_len PyProof.Rows.Boot.«len» <| ea_cons <| ex_var ⟨rfl, rfl⟩ <| ea_nil <| c_lenT (lstD (pairD Dat.int Dat.int)) (xs := z1) <| ⟨(0 : Int), a_length, (z1.length : Int), rfl, rfl, rfl, (gd (ob h)).1, have h := (gd (ob h)).2; foldT Dat.int (xs := (rangeC (0 : Int) (z1.length : Int) (Int.toNat ((a_length - (0 : Int) + (z1.length : Int) - 1) / (z1.length : Int))))) (fun (s2 : (List (List (Int × Int)))) τ M' => ∃ d4 d5 d6 d7, [some ((scriptD R) a_script), some (.int a_length), some ((lstD (lstD (pairD Dat.int Dat.int))) z1), some ((lstD (lstD (pairD Dat.int Dat.int))) s2), d4, d5, d6, d7] = τ ∧ M = M') (ob h) ⟨_, _, _, _, rfl, rfl⟩ (fun _ _ _ _ => trivial) ?g14 ?g15⟩
  case g14 =>
    rintro x3 s2 _ _ N ⟨d4, d5, d6, d7, rfl, rfl⟩ h
    refine gx_name  <| ?_
    refine ws_set <| ex_bin <| ex_var ⟨rfl, rfl⟩ <| ex_lcT [("rows", 5)] <| ei_list <| ex_var ⟨rfl, rfl⟩ <| ⟨_, rfl, compT (lstD (pairD Dat.int Dat.int)) (lstD (pairD Dat.int Dat.int)) (xs := z1) (ob h) trivial (fun x6 _ h s H C cl fp => gc_name  <| fun s H C cl fp => ef_nil ⟨fun _ s H C cl fp => ex_lcT [("written", 6), ("signs", 7)] <| ei_list <| ex_var ⟨rfl, rfl⟩ <| ⟨_, rfl, compT (pairD Dat.int Dat.int) (pairD Dat.int Dat.int) (xs := x6) (ob h) trivial (fun x7 _ h s H C cl fp => gc_tup <| gcs_cons <| gc_name  <| gcs_cons <| gc_name  <| gcs_nil <| fun s H C cl fp => ef_nil ⟨fun _ s H C cl fp => ex_tup <| ea_cons <| ex_bin <| ex_var ⟨rfl, rfl⟩ <| ex_var ⟨rfl, rfl⟩ <| r_shl (ob h) fun z8 h => ea_cons <| ex_bin <| ex_var ⟨rfl, rfl⟩ <| ex_var ⟨rfl, rfl⟩ <| r_shl (ob h) fun z9 h => ea_nil ⟨ln, ⟨rfl, (z8, z9), rfl, h⟩⟩, fun z => nomatch z⟩) (fun l10 h => ⟨rfl, l10, rfl, h⟩)⟩, fun z => nomatch z⟩) (fun l11 h => r_catL (lstD (pairD Dat.int Dat.int)) (xs := s2) (ys := l11) (ob h) fun z12 h => ?_)⟩
    exact ws_nil ⟨z12, ⟨_, _, _, _, rfl, rfl⟩, h⟩
  case g15 =>
    rintro s2 _ _ ⟨d4, d5, d6, d7, rfl, rfl⟩ h
    exact ws_ret <| ex_var ⟨rfl, rfl⟩ <| (dN [] h)

def S_is_held (R : Prg K mg) : Spc := fun ds M P E => ∃ (a_rows : (List (Int × Int))) (a_other : (Int × Int)), ds = [((lstD (pairD Dat.int Dat.int)) a_rows), ((pairD Dat.int Dat.int) a_other)] ∧ (m_is_held a_rows a_other).Out (fun r => P (.bl r) M) (fun x => E (exE R x) M)
theorem ok_is_held (R : Prg K mg) : FnD PR w K mg base 2 R.f_is_held R.d_is_held P_is_held (S_is_held R) := by
  refine fn_d false R.F_is_held sc_is_held (fun h => nomatch h) (fun ds M P E ⟨_, _, e, _⟩ => by rw [e]; rfl) fun cdv A outer s H E hr ds M Pd PE h => ?_
  obtain ⟨a_rows, a_other, rfl, h⟩ := h
  have hu := hr.units
  refine WS.ends ?_
  refine ws_forT <| ei_list <| ex_var ⟨rfl, rfl⟩ <| ⟨_, rfl, forT (pairD Dat.int Dat.int) (xs := a_rows) (fun (s1 : Unit) τ M' => ∃ d2, [some ((lstD (pairD Dat.int Dat.int)) a_rows), some ((pairD Dat.int Dat.int) a_other), d2] = τ ∧ M = M') (ob h) ⟨_, rfl, rfl⟩ (fun _ _ _ _ => trivial) ?g8 ?g9⟩
  case g8 =>
    rintro x2 s1 _ _ N ⟨d2, rfl, rfl⟩ h hrt3
    refine gx_name  <| ?_
    refine ws_if <| et_val <| ex_callF (ok_holds_in R) (hr.mono (by decide)) R.m_holds_in R.F_holds_in R.b_holds_in <| ea_cons <| ex_var ⟨rfl, rfl⟩ <| ea_cons <| ex_var ⟨rfl, rfl⟩ <| ea_nil <| ⟨x2, a_other, rfl, outU (ob h) (fun z5 h => ⟨_, rfl, cif h (fun h => ?g6) (fun h => ?g7)⟩) (fun _ h => dX [] h)⟩
    case g6 =>
      exact ws_ret <| ex_bl <| (dN [] (hrt3 _ h))
    case g7 =>
      refine ws_nil ?_
      exact ws_nil ⟨(), ⟨_, rfl, rfl⟩, h⟩
  case g9 =>
    rintro s1 _ _ ⟨d2, rfl, rfl⟩ h
    replace h := finO h
    exact ws_ret <| ex_bl <| (dN [] h)

def S_put_down (R : Prg K mg) : Spc := fun ds M P E => ∃ (a_row : (Int × Int)) (a_cell : Int) (a_length : Int), ds = [((pairD Dat.int Dat.int) a_row), (.int a_cell), (.int a_length)] ∧ (m_put_down a_row a_cell a_length).Out (fun r => P ((fileD R) r) M) (fun x => E (exE R x) M)
theorem ok_put_down (R : Prg K mg) : FnD PR w K mg base 4 R.f_put_down R.d_put_down P_put_down (S_put_down R) := by
  refine fn_d false R.F_put_down sc_put_down (fun h => nomatch h) (fun ds M P E ⟨_, _, _, e, _⟩ => by rw [e]; rfl) fun cdv A outer s H E hr ds M Pd PE h => ?_
  obtain ⟨a_row, a_cell, a_length, rfl, h⟩ := h
  have hu := hr.units
  refine WS.ends ?_
  refine ws_asg <| ex_var ⟨rfl, rfl⟩ <| gx_tup <| gxs_cons <| gx_name  <| gxs_cons <| gx_name  <| gxs_nil <| ?_
  refine ws_set <| ex_lcT [("at", 7)] <| ei_rng1 R.n_range <| ex_var ⟨rfl, rfl⟩ <| ⟨a_length, rfl, (gd (ob h)).1, have h := (gd (ob h)).2; compT Dat.int Dat.int (xs := (rangeL 0 (Int.toNat a_length))) (ob h) trivial (fun x1 _ h s H C cl fp => gc_name  <| fun s H C cl fp => ef_nil ⟨fun _ s H C cl fp => ex_bin <| ex_bin <| ex_bin <| ex_var ⟨rfl, rfl⟩ <| ex_var ⟨rfl, rfl⟩ <| r_shr (ob h) fun z2 h => ex_int <| o_band <| ex_bin <| ex_bin <| ex_var ⟨rfl, rfl⟩ <| ex_var ⟨rfl, rfl⟩ <| r_shr (ob h) fun z3 h => ex_int <| o_band <| o_add <| ⟨rfl, ((Builtin.bitAnd z2 (1 : Int)) + (Builtin.bitAnd z3 (1 : Int))), rfl, h⟩, fun z => nomatch z⟩) (fun l4 h => ?_)⟩
  refine ws_set <| ex_callB R.n_max PyProof.Rows.Boot.«max» <| ea_cons <| ex_lcT [("at", 7)] <| ei_rng1 R.n_range <| ex_var ⟨rfl, rfl⟩ <| ⟨a_length, rfl, (gd (ob h)).1, have h := (gd (ob h)).2; compT Dat.int Dat.int (xs := (rangeL 0 (Int.toNat a_length))) (ob h) trivial (fun x5 _ h s H C cl fp => gc_name  <| fun s H C cl fp => ef_one <| etJ (ob h) (fun h => et_w <| ewO h (fun _ h => et_cmp <| ex_ix <| ex_var ⟨rfl, rfl⟩ <| ex_var ⟨rfl, rfl⟩ <| r_ix Dat.int (xs := l4) (ob h) fun z6 h => ex_int <| o_gt <| ⟨_, rfl, rfl, h⟩) (fun h => ew_or1 <| et_cmp <| ex_var ⟨rfl, rfl⟩ <| ex_var ⟨rfl, rfl⟩ <| o_eqI <| ⟨_, rfl, rfl, h⟩)) fun t7 h => cif h (fun h => fun s H C cl fp => ex_var ⟨rfl, rfl⟩ <| ⟨rfl, x5, rfl, h⟩) (fun h => ⟨rfl, h⟩)) (fun l8 h => ea_nil <| c_maxL (ns := l8) (ob h) fun z9 h => ?_)⟩
  exact ws_ret <| ex_make R.K_File (ok_File_init R) (hr.mono (by decide)) R.mc_File R.b_File_init .nil (fun _ => .nil) <| ea_cons <| ex_join <| ex_str <| ⟨.str, ea_cons <| ex_lcT [("kind", 8)] <| ei_list <| ex_sl <| ex_var ⟨rfl, rfl⟩ <| ep_none <| ep_some <| ex_bin <| ex_var ⟨rfl, rfl⟩ <| ex_int <| o_add <| ⟨_, rfl, l_lstT Dat.int (xs := l4) <| ⟨_, rfl, compT Dat.int chD (xs := (cutD l4 none (some (z9 + (1 : Int))))) (ob h) trivial (fun x10 _ h s H C cl fp => gc_name  <| fun s H C cl fp => ef_nil ⟨fun _ s H C cl fp => ex_ix <| ex_str <| ex_var ⟨rfl, rfl⟩ <| r_ixS (ob h) fun z11 h => ⟨rfl, z11, rfl, h⟩, fun z => nomatch z⟩) (fun l12 h => ea_nil <| r_joinC (xs := l12) (ob h) fun z13 h => ea_nil <| fun q dx _ _ _ => mk_File (ob h) (fun z14 h => (dN [] h)) (fun _ h => dX [_] h))⟩⟩⟩

def S_more_of (R : Prg K mg) : Spc := fun ds M P E => ∃ (a_one : (List StepT)) (a_other : (List StepT)), ds = [((scriptD R) a_one), ((scriptD R) a_other)] ∧ (m_more_of a_one a_other).Out (fun r => P ((optD (fileD R)) r) M) (fun x => E (exE R x) M)
theorem ok_more_of (R : Prg K mg) : FnD PR w K mg base 10 R.f_more_of R.d_more_of P_more_of (S_more_of R) := by
  refine fn_d false R.F_more_of sc_more_of (fun h => nomatch h) (fun ds M P E ⟨_, _, e, _⟩ => by rw [e]; rfl) fun cdv A outer s H E hr ds M Pd PE h => ?_
  obtain ⟨a_one, a_other, rfl, h⟩ := h
  have hu := hr.units
  refine WS.ends ?_
  refine ws_set <| ex_callF (ok_multiple_of R) (hr.mono (by decide)) R.m_multiple_of R.F_multiple_of R.b_multiple_of <| ea_cons <| ex_lst <| ea_cons <| ex_prop R.L_Script.cl R.V_Script_period (ok_Script_period R) (hr.mono (by decide)) R.b_Script_period <| ex_var ⟨rfl, rfl⟩ <| ⟨⟨"", .inl ⟨_, _, rfl, by decide⟩⟩, ap_all ⟨a_one, rfl, outU (ne_out (E' := fun _ => False) (ob h)) (fun z1 h => ea_cons <| ex_prop R.L_Script.cl R.V_Script_period (ok_Script_period R) (hr.mono (by decide)) R.b_Script_period <| ex_var ⟨rfl, rfl⟩ <| ⟨⟨"", .inl ⟨_, _, rfl, by decide⟩⟩, ap_all ⟨a_other, rfl, outU (ne_out (E' := fun _ => False) (ob h)) (fun z2 h => ea_nil ⟨ln, ea_nil <| ⟨([z1, z2] : List Int), rfl, outU (ob h) (fun z3 h => ?_) (fun _ h => dX [] h)⟩⟩) (fun _ h => h.elim)⟩⟩) (fun _ h => h.elim)⟩⟩
  refine ws_set <| ex_callF (ok_moved_table R) (hr.mono (by decide)) R.m_moved_table R.F_moved_table R.b_moved_table <| ea_cons <| ex_var ⟨rfl, rfl⟩ <| ea_cons <| ex_var ⟨rfl, rfl⟩ <| ea_nil <| ⟨a_other, z3, rfl, outU (ob h) (fun z4 h => ?_) (fun _ h => dX [] h)⟩
  refine ws_forT <| ei_enumT (lstD (pairD Dat.int Dat.int)) R.n_enumerate <| ex_callF (ok_moved_table R) (hr.mono (by decide)) R.m_moved_table R.F_moved_table R.b_moved_table <| ea_cons <| ex_var ⟨rfl, rfl⟩ <| ea_cons <| ex_var ⟨rfl, rfl⟩ <| ea_nil <| ⟨a_one, z3, rfl, outU (ob h) (fun z5 h => ⟨z5, rfl, forT (pairD Dat.int (lstD (pairD Dat.int Dat.int))) (xs := (enumL z5)) (fun (s6 : Unit) τ M' => ∃ d4 d5 d6, [some ((scriptD R) a_one), some ((scriptD R) a_other), some (.int z3), some ((lstD (lstD (pairD Dat.int Dat.int))) z4), d4, d5, d6] = τ ∧ M = M') (ob h) ⟨_, _, _, rfl, rfl⟩ (fun _ _ _ _ => trivial) ?g21 ?g22⟩) (fun _ h => dX [] h)⟩
  case g21 =>
    rintro x7 s6 _ _ N ⟨d4, d5, d6, rfl, rfl⟩ h hrt8
    refine gx_tup <| gxs_cons <| gx_name  <| gxs_cons <| gx_name  <| gxs_nil <| ?_
    refine ws_forT <| ei_list <| ex_var ⟨rfl, rfl⟩ <| ⟨_, rfl, forT (pairD Dat.int Dat.int) (xs := x7.2) (fun (s10 : Unit) τ M' => ∃ d6, [some ((scriptD R) a_one), some ((scriptD R) a_other), some (.int z3), some ((lstD (lstD (pairD Dat.int Dat.int))) z4), some (.int x7.1), some ((lstD (pairD Dat.int Dat.int)) x7.2), d6] = τ ∧ M = M') (ob h) ⟨_, rfl, rfl⟩ (fun _ _ _ _ => trivial) ?g19 ?g20⟩
    case g19 =>
      rintro x11 s10 _ _ N ⟨d6, rfl, rfl⟩ h hrt12
      refine gx_name  <| ?_
      refine ws_if <| et_not <| et_val <| ex_callF (ok_is_held R) (hr.mono (by decide)) R.m_is_held R.F_is_held R.b_is_held <| ea_cons <| ex_ix <| ex_var ⟨rfl, rfl⟩ <| ex_var ⟨rfl, rfl⟩ <| r_ix (lstD (pairD Dat.int Dat.int)) (xs := z4) (ob h) fun z14 h => ea_cons <| ex_var ⟨rfl, rfl⟩ <| ea_nil <| ⟨z14, x11, rfl, outU (ob h) (fun z15 h => ⟨_, rfl, cifN h (fun h => ?g18) (fun h => ?g17)⟩) (fun _ h => dX [] h)⟩
      case g17 =>
        exact ws_ret <| ex_callF (ok_put_down R) (hr.mono (by decide)) R.m_put_down R.F_put_down R.b_put_down <| ea_cons <| ex_var ⟨rfl, rfl⟩ <| ea_cons <| ex_var ⟨rfl, rfl⟩ <| ea_cons <| ex_var ⟨rfl, rfl⟩ <| ea_nil <| ⟨x11, x7.1, z3, rfl, outU (ob h) (fun z16 h => (dN [] (hrt8 _ (hrt12 _ h)))) (fun _ h => dX [] h)⟩
      case g18 =>
        refine ws_nil ?_
        exact ws_nil ⟨(), ⟨_, rfl, rfl⟩, h⟩
    case g20 =>
      rintro s10 _ _ ⟨d6, rfl, rfl⟩ h
      replace h := finO h
      exact ws_nil ⟨(), ⟨_, _, _, rfl, rfl⟩, h⟩
  case g22 =>
    rintro s6 _ _ ⟨d4, d5, d6, rfl, rfl⟩ h
    replace h := finO h
    exact ws_ret <| ex_non <| (dN [] h)

def S_parting_of (R : Prg K mg) : Spc := fun ds M P E => ∃ (a_one : (List StepT)) (a_other : (List StepT)), ds = [((scriptD R) a_one), ((scriptD R) a_other)] ∧ (m_parting_of a_one a_other).Out (fun r => P ((optD (fileD R)) r) M) (fun x => E (exE R x) M)
theorem ok_parting_of (R : Prg K mg) : FnD PR w K mg base 11 R.f_parting_of R.d_parting_of P_parting_of (S_parting_of R) := by
  refine fn_d false R.F_parting_of sc_parting_of (fun h => nomatch h) (fun ds M P E ⟨_, _, e, _⟩ => by rw [e]; rfl) fun cdv A outer s H E hr ds M Pd PE h => ?_
  obtain ⟨a_one, a_other, rfl, h⟩ := h
  have hu := hr.units
  refine WS.ends ?_
  refine ws_set <| ex_callF (ok_more_of R) (hr.mono (by decide)) R.m_more_of R.F_more_of R.b_more_of <| ea_cons <| ex_var ⟨rfl, rfl⟩ <| ea_cons <| ex_var ⟨rfl, rfl⟩ <| ea_nil <| ⟨a_one, a_other, rfl, outU (ob h) (fun z1 h => ?_) (fun _ h => dX [] h)⟩
  exact ws_ret <| exJ (optD (fileD R)) (ob h) (fun h => ex_if <| et_cmp <| ex_var ⟨rfl, rfl⟩ <| ex_non <| o_isNT (fileD R) (fun _ => ⟨rfl, fun _ z => nomatch z⟩) <| ⟨_, rfl, cif h (fun h => ex_callF (ok_more_of R) (hr.mono (by decide)) R.m_more_of R.F_more_of R.b_more_of <| ea_cons <| ex_var ⟨rfl, rfl⟩ <| ea_cons <| ex_var ⟨rfl, rfl⟩ <| ea_nil <| ⟨a_other, a_one, rfl, outU (ob h) (fun z2 h => ⟨rfl, z2, rfl, h⟩) (fun _ h => dX [] h)⟩) (fun h => ex_var ⟨rfl, rfl⟩ <| ⟨rfl, z1, rfl, h⟩)⟩) fun z3 h => (dN [] h)

def S_alike (R : Prg K mg) : Spc := fun ds M P E => ∃ (a_one : (List StepT)) (a_other : (List StepT)), ds = [((scriptD R) a_one), ((scriptD R) a_other)] ∧ (m_alike a_one a_other).Out (fun r => P (.bl r) M) (fun x => E (exE R x) M)
theorem ok_alike (R : Prg K mg) : FnD PR w K mg base 12 R.f_alike R.d_alike P_alike (S_alike R) := by
  refine fn_d false R.F_alike sc_alike (fun h => nomatch h) (fun ds M P E ⟨_, _, e, _⟩ => by rw [e]; rfl) fun cdv A outer s H E hr ds M Pd PE h => ?_
  obtain ⟨a_one, a_other, rfl, h⟩ := h
  have hu := hr.units
  refine WS.ends ?_
  refine ws_expr <| ex_callF (ok_check_two R) (hr.mono (by decide)) R.m_check_two R.F_check_two R.b_check_two <| ea_cons <| ex_var ⟨rfl, rfl⟩ <| ea_cons <| ex_var ⟨rfl, rfl⟩ <| ea_nil <| ⟨a_one, a_other, rfl, outU (ob h) (fun z1 h => ?_) (fun _ h => dX [] h)⟩
  exact ws_ret <| ex_cmp <| ex_callF (ok_parting_of R) (hr.mono (by decide)) R.m_parting_of R.F_parting_of R.b_parting_of <| ea_cons <| ex_var ⟨rfl, rfl⟩ <| ea_cons <| ex_var ⟨rfl, rfl⟩ <| ea_nil <| ⟨a_one, a_other, rfl, outU (ob h) (fun z2 h => ex_non <| o_isNT (fileD R) (fun _ => ⟨rfl, fun _ z => nomatch z⟩) <| (dN [] h)) (fun _ h => dX [] h)⟩

def S_parting (R : Prg K mg) : Spc := fun ds M P E => ∃ (a_one : (List StepT)) (a_other : (List StepT)), ds = [((scriptD R) a_one), ((scriptD R) a_other)] ∧ (m_parting a_one a_other).Out (fun r => P ((optD (fileD R)) r) M) (fun x => E (exE R x) M)
theorem ok_parting (R : Prg K mg) : FnD PR w K mg base 12 R.f_parting R.d_parting P_parting (S_parting R) := by
  refine fn_d false R.F_parting sc_parting (fun h => nomatch h) (fun ds M P E ⟨_, _, e, _⟩ => by rw [e]; rfl) fun cdv A outer s H E hr ds M Pd PE h => ?_
  obtain ⟨a_one, a_other, rfl, h⟩ := h
  have hu := hr.units
  refine WS.ends ?_
  refine ws_expr <| ex_callF (ok_check_two R) (hr.mono (by decide)) R.m_check_two R.F_check_two R.b_check_two <| ea_cons <| ex_var ⟨rfl, rfl⟩ <| ea_cons <| ex_var ⟨rfl, rfl⟩ <| ea_nil <| ⟨a_one, a_other, rfl, outU (ob h) (fun z1 h => ?_) (fun _ h => dX [] h)⟩
  exact ws_ret <| ex_callF (ok_parting_of R) (hr.mono (by decide)) R.m_parting_of R.F_parting_of R.b_parting_of <| ea_cons <| ex_var ⟨rfl, rfl⟩ <| ea_cons <| ex_var ⟨rfl, rfl⟩ <| ea_nil <| ⟨a_one, a_other, rfl, outU (ob h) (fun z2 h => (dN [] h)) (fun _ h => dX [] h)⟩

def S_never_more (R : Prg K mg) : Spc := fun ds M P E => ∃ (a_one : (List StepT)) (a_other : (List StepT)), ds = [((scriptD R) a_one), ((scriptD R) a_other)] ∧ (m_never_more a_one a_other).Out (fun r => P (.bl r) M) (fun x => E (exE R x) M)
theorem ok_never_more (R : Prg K mg) : FnD PR w K mg base 11 R.f_never_more R.d_never_more P_never_more (S_never_more R) := by
  refine fn_d false R.F_never_more sc_never_more (fun h => nomatch h) (fun ds M P E ⟨_, _, e, _⟩ => by rw [e]; rfl) fun cdv A outer s H E hr ds M Pd PE h => ?_
  obtain ⟨a_one, a_other, rfl, h⟩ := h
  have hu := hr.units
  refine WS.ends ?_
  refine ws_expr <| ex_callF (ok_check_two R) (hr.mono (by decide)) R.m_check_two R.F_check_two R.b_check_two <| ea_cons <| ex_var ⟨rfl, rfl⟩ <| ea_cons <| ex_var ⟨rfl, rfl⟩ <| ea_nil <| ⟨a_one, a_other, rfl, outU (ob h) (fun z1 h => ?_) (fun _ h => dX [] h)⟩
  exact ws_ret <| ex_cmp <| ex_callF (ok_more_of R) (hr.mono (by decide)) R.m_more_of R.F_more_of R.b_more_of <| ea_cons <| ex_var ⟨rfl, rfl⟩ <| ea_cons <| ex_var ⟨rfl, rfl⟩ <| ea_nil <| ⟨a_one, a_other, rfl, outU (ob h) (fun z2 h => ex_non <| o_isNT (fileD R) (fun _ => ⟨rfl, fun _ z => nomatch z⟩) <| (dN [] h)) (fun _ h => dX [] h)⟩

def S_more_file (R : Prg K mg) : Spc := fun ds M P E => ∃ (a_one : (List StepT)) (a_other : (List StepT)), ds = [((scriptD R) a_one), ((scriptD R) a_other)] ∧ (m_more_file a_one a_other).Out (fun r => P ((optD (fileD R)) r) M) (fun x => E (exE R x) M)
theorem ok_more_file (R : Prg K mg) : FnD PR w K mg base 11 R.f_more_file R.d_more_file P_more_file (S_more_file R) := by
  refine fn_d false R.F_more_file sc_more_file (fun h => nomatch h) (fun ds M P E ⟨_, _, e, _⟩ => by rw [e]; rfl) fun cdv A outer s H E hr ds M Pd PE h => ?_
  obtain ⟨a_one, a_other, rfl, h⟩ := h
  have hu := hr.units
  refine WS.ends ?_
  refine ws_expr <| ex_callF (ok_check_two R) (hr.mono (by decide)) R.m_check_two R.F_check_two R.b_check_two <| ea_cons <| ex_var ⟨rfl, rfl⟩ <| ea_cons <| ex_var ⟨rfl, rfl⟩ <| ea_nil <| ⟨a_one, a_other, rfl, outU (ob h) (fun z1 h => ?_) (fun _ h => dX [] h)⟩
  exact ws_ret <| ex_callF (ok_more_of R) (hr.mono (by decide)) R.m_more_of R.F_more_of R.b_more_of <| ea_cons <| ex_var ⟨rfl, rfl⟩ <| ea_cons <| ex_var ⟨rfl, rfl⟩ <| ea_nil <| ⟨a_one, a_other, rfl, outU (ob h) (fun z2 h => (dN [] h)) (fun _ h => dX [] h)⟩

def S_Script_add (R : Prg K mg) : Spc := fun ds M P E => ∃ (a_self : (List StepT)) (a_other : (List StepT)), ds = [((scriptD R) a_self), ((scriptD R) a_other)] ∧ (m_Script_add a_self a_other).Out (fun r => P ((scriptD R) r) M) (fun x => E (exE R x) M)
theorem ok_Script_add (R : Prg K mg) : FnD PR w K mg base 4 R.f_Script_add R.d_Script_add P_Script_add (S_Script_add R) := by
  refine fn_d false R.F_Script_add sc_Script_add (fun h => nomatch h) (fun ds M P E ⟨_, _, e, _⟩ => by rw [e]; rfl) fun cdv A outer s H E hr ds M Pd PE h => ?_
  obtain ⟨a_self, a_other, rfl, h⟩ := h
  have hu := hr.units
  refine WS.ends ?_
  refine ws_if <| et_not <| et_val <| ex_callB R.n_isinstance PyProof.Rows.Boot.«isinstance» <| ea_cons <| ex_var ⟨rfl, rfl⟩ <| ea_cons <| ex_gref R.mc_Script <| ea_nil <| c_isi (k := true) (.own _) (.obj R.L_Script) R.s_Script_Script <| ⟨_, rfl, (fun z => absurd z (by decide)), fun _ => ?_⟩
  refine ws_nil ?_
  exact ws_ret <| ex_make R.K_Script (ok_Script_init R) (hr.mono (by decide)) R.mc_Script R.b_Script_init .nil (fun _ => .nil) <| ea_cons <| ex_callTy R.n_list PyProof.Rows.Boot.«list» <| ea_cons <| ex_bin <| ex_fld <| ex_var ⟨rfl, rfl⟩ <| ⟨_, ⟨_, R.L_Script.cl, R.A_Script_rows, .inl ⟨_, _, rfl, rfl, rfl⟩⟩, ex_fld <| ex_var ⟨rfl, rfl⟩ <| ⟨_, ⟨_, R.L_Script.cl, R.A_Script_rows, .inl ⟨_, _, rfl, rfl, rfl⟩⟩, r_catT (stepD R) (xs := a_self) (ys := a_other) (ob h) fun z1 h => ea_nil <| c_listV (stepD R) (xs := z1) <| ea_nil <| fun q dx _ _ _ => mk_Script (ob h) (fun z2 h => (dN [] h)) (fun _ h => dX [_] h)⟩⟩

def S_exchangeable (R : Prg K mg) : Spc := fun ds M P E => ∃ (a_one : (List StepT)) (a_other : (List StepT)), ds = [((scriptD R) a_one), ((scriptD R) a_other)] ∧ (m_exchangeable a_one a_other).Out (fun r => P (.bl r) M) (fun x => E (exE R x) M)
theorem ok_exchangeable (R : Prg K mg) : FnD PR w K mg base 12 R.f_exchangeable R.d_exchangeable P_exchangeable (S_exchangeable R) := by
  refine fn_d false R.F_exchangeable sc_exchangeable (fun h => nomatch h) (fun ds M P E ⟨_, _, e, _⟩ => by rw [e]; rfl) fun cdv A outer s H E hr ds M Pd PE h => ?_
  obtain ⟨a_one, a_other, rfl, h⟩ := h
  have hu := hr.units
  refine WS.ends ?_
  refine ws_expr <| ex_callF (ok_check_two R) (hr.mono (by decide)) R.m_check_two R.F_check_two R.b_check_two <| ea_cons <| ex_var ⟨rfl, rfl⟩ <| ea_cons <| ex_var ⟨rfl, rfl⟩ <| ea_nil <| ⟨a_one, a_other, rfl, outU (ob h) (fun z1 h => ?_) (fun _ h => dX [] h)⟩
  exact ws_ret <| ex_cmp <| ex_callF (ok_parting_of R) (hr.mono (by decide)) R.m_parting_of R.F_parting_of R.b_parting_of <| ea_cons <| ex_bin <| ex_var ⟨rfl, rfl⟩ <| ex_var ⟨rfl, rfl⟩ <| o_binOwn (ok_Script_add R) (hr.mono (by decide)) R.bo_Script_add R.M_Script_add.2 R.b_Script_add R.sf_Script (fun _ => .inl ⟨_, _, rfl, by decide⟩) (fun _ => .inl ⟨_, _, rfl, by decide⟩) ⟨a_one, a_other, rfl, outU (ne_out (E' := fun _ => False) (ob h)) (fun z2 h => ⟨rfl, ea_cons <| ex_bin <| ex_var ⟨rfl, rfl⟩ <| ex_var ⟨rfl, rfl⟩ <| o_binOwn (ok_Script_add R) (hr.mono (by decide)) R.bo_Script_add R.M_Script_add.2 R.b_Script_add R.sf_Script (fun _ => .inl ⟨_, _, rfl, by decide⟩) (fun _ => .inl ⟨_, _, rfl, by decide⟩) ⟨a_other, a_one, rfl, outU (ne_out (E' := fun _ => False) (ob h)) (fun z3 h => ⟨rfl, ea_nil <| ⟨z2, z3, rfl, outU (ob h) (fun z4 h => ex_non <| o_isNT (fileD R) (fun _ => ⟨rfl, fun _ z => nomatch z⟩) <| (dN [] h)) (fun _ h => dX [] h)⟩⟩) (fun _ h => h.elim)⟩⟩) (fun _ h => h.elim)⟩

def S_Script_len (R : Prg K mg) : Spc := fun ds M P E => ∃ (a_self : (List StepT)), ds = [((scriptD R) a_self)] ∧ (m_Script_len a_self).Out (fun r => P (.int r) M) (fun x => E (exE R x) M)
theorem ok_Script_len (R : Prg K mg) : FnD PR w K mg base 1 R.f_Script_len R.d_Script_len P_Script_len (S_Script_len R) := by
  refine fn_d false R.F_Script_len sc_Script_len (fun h => nomatch h) (fun ds M P E ⟨_, e, _⟩ => by rw [e]; rfl) fun cdv A outer s H E hr ds M Pd PE h => ?_
  obtain ⟨a_self, rfl, h⟩ := h
  have hu := hr.units
  refine WS.ends ?_
  exact ws_ret <| ex_callB R.n_len PyProof.Rows.Boot.«len» <| ea_cons <| ex_fld <| ex_var ⟨rfl, rfl⟩ <| ⟨_, ⟨_, R.L_Script.cl, R.A_Script_rows, .inl ⟨_, _, rfl, rfl, rfl⟩⟩, ea_nil <| c_lenV (stepD R) (xs := a_self) <| (dN [] h)⟩

def S_check_within (R : Prg K mg) : Spc := fun ds M P E => ∃ (a_value : Int) (a_first : Int) (a_last : Int), ds = [(.int a_value), (.int a_first), (.int a_last)] ∧ (m_check_within a_value a_first a_last).Out (fun r => P .non M) (fun x => E (exE R x) M)
theorem ok_check_within (R : Prg K mg) : FnD PR w K mg base 2 R.f_check_within R.d_check_within P_check_within (S_check_within R) := by
  refine fn_d false R.F_check_within sc_check_within (fun h => nomatch h) (fun ds M P E ⟨_, _, _, e, _⟩ => by rw [e]; rfl) fun cdv A outer s H E hr ds M Pd PE h => ?_
  obtain ⟨a_value, a_first, a_last, rfl, h⟩ := h
  have hu := hr.units
  refine WS.ends ?_
  refine ws_if <| et_w <| ew_or <| et_not <| et_val <| ex_callF (ok_is_whole R) (hr.mono (by decide)) R.m_is_whole R.F_is_whole R.b_is_whole <| ea_cons <| ex_var ⟨rfl, rfl⟩ <| ea_nil <| ⟨a_value, rfl, outU (ob h) (fun z1 h => ⟨_, rfl, cifN h (fun h => ew_or1 <| et_not <| etJ (ob h) (fun h => et_chain <| ex_var ⟨rfl, rfl⟩ <| tch_link <| ex_var ⟨rfl, rfl⟩ <| o_le <| ⟨_, rfl, cif h (fun h => tch_last <| ex_var ⟨rfl, rfl⟩ <| o_le <| ⟨_, rfl, rfl, h⟩) (fun h => ⟨rfl, h⟩)⟩) fun t3 h => cifN h (fun h => ?g5) (fun h => ?g4)) (fun h => ⟨fun _ => ?g2, fun z => nomatch z⟩)⟩) (fun _ h => dX [] h)⟩
  case g2 =>
    exact ws_raise rfl R.S_InvalidNumber R.mc_InvalidNumber R.n_super hr <| ex_asA <| ex_var ⟨rfl, rfl⟩ <| ⟨anyD (clR R) (Any.int a_value), (by first | rfl | (simp only [anyD, anyDL, anyDL_map, List.map_map]; done) | (simp only [anyD, anyDL, anyDL_map, List.map_map]; rfl) | (simp only [anyD, anyDL, anyDL_map, List.map_map, stepA_comp, stepA_D]; rfl) | (simp only [anyD, anyDL, anyDL_map, List.map_map, stepA_comp, stepA_D]; done)), (dX [] h)⟩
  case g4 =>
    exact ws_raise rfl R.S_InvalidNumber R.mc_InvalidNumber R.n_super hr <| ex_asA <| ex_var ⟨rfl, rfl⟩ <| ⟨anyD (clR R) (Any.int a_value), (by first | rfl | (simp only [anyD, anyDL, anyDL_map, List.map_map]; done) | (simp only [anyD, anyDL, anyDL_map, List.map_map]; rfl) | (simp only [anyD, anyDL, anyDL_map, List.map_map, stepA_comp, stepA_D]; rfl) | (simp only [anyD, anyDL, anyDL_map, List.map_map, stepA_comp, stepA_D]; done)), (dX [] h)⟩
  case g5 =>
    refine ws_nil ?_
    exact ws_nil (dN [] h)

def S_Script_without (R : Prg K mg) : Spc := fun ds M P E => ∃ (a_self : (List StepT)) (a_k : Int), ds = [((scriptD R) a_self), (.int a_k)] ∧ (m_Script_without a_self a_k).Out (fun r => P ((scriptD R) r) M) (fun x => E (exE R x) M)
theorem ok_Script_without (R : Prg K mg) : FnD PR w K mg base 4 R.f_Script_without R.d_Script_without P_Script_without (S_Script_without R) := by
  refine fn_d false R.F_Script_without sc_Script_without (fun h => nomatch h) (fun ds M P E ⟨_, _, e, _⟩ => by rw [e]; rfl) fun cdv A outer s H E hr ds M Pd PE h => ?_
  obtain ⟨a_self, a_k, rfl, h⟩ := h
  have hu := hr.units
  refine WS.ends ?_
  refine ws_expr <| ex_callF (ok_check_within R) (hr.mono (by decide)) R.m_check_within R.F_check_within R.b_check_within <| ea_cons <| ex_var ⟨rfl, rfl⟩ <| ea_cons <| ex_int <| ea_cons <| ex_bin <| ex_callB R.n_len PyProof.Rows.Boot.«len» <| ea_cons <| ex_fld <| ex_var ⟨rfl, rfl⟩ <| ⟨_, ⟨_, R.L_Script.cl, R.A_Script_rows, .inl ⟨_, _, rfl, rfl, rfl⟩⟩, ea_nil <| c_lenV (stepD R) (xs := a_self) <| ex_int <| o_sub <| ea_nil <| ⟨a_k, (0 : Int), ((a_self.length : Int) - (1 : Int)), rfl, outU (ob h) (fun z1 h => ?_) (fun _ h => dX [] h)⟩⟩
  exact ws_ret <| ex_make R.K_Script (ok_Script_init R) (hr.mono (by decide)) R.mc_Script R.b_Script_init .nil (fun _ => .nil) <| ea_cons <| ex_callTy R.n_list PyProof.Rows.Boot.«list» <| ea_cons <| ex_bin <| ex_sl <| ex_fld <| ex_var ⟨rfl, rfl⟩ <| ⟨_, ⟨_, R.L_Script.cl, R.A_Script_rows, .inl ⟨_, _, rfl, rfl, rfl⟩⟩, ep_none <| ep_some <| ex_var ⟨rfl, rfl⟩ <| ⟨_, rfl, l_tupT2 (stepD R) (xs := a_self) <| ex_sl <| ex_fld <| ex_var ⟨rfl, rfl⟩ <| ⟨_, ⟨_, R.L_Script.cl, R.A_Script_rows, .inl ⟨_, _, rfl, rfl, rfl⟩⟩, ep_some <| ex_bin <| ex_var ⟨rfl, rfl⟩ <| ex_int <| o_add <| ⟨_, rfl, ep_none <| l_tupT2 (stepD R) (xs := a_self) <| r_catT (stepD R) (xs := (cutD a_self none (some a_k))) (ys := (cutD a_self (some (a_k + (1 : Int))) none)) (ob h) fun z4 h => ea_nil <| c_listV (stepD R) (xs := z4) <| ea_nil <| fun q dx _ _ _ => mk_Script (ob h) (fun z5 h => (dN [] h)) (fun _ h => dX [_] h)⟩⟩⟩⟩

def S_needless (R : Prg K mg) : Spc := fun ds M P E => ∃ (a_script : (List StepT)), ds = [((scriptD R) a_script)] ∧ (m_needless a_script).Out (fun r => P ((lstD Dat.int) r) M) (fun x => E (exE R x) M)
theorem ok_needless (R : Prg K mg) : FnD PR w K mg base 12 R.f_needless R.d_needless P_needless (S_needless R) := by
  refine fn_d false R.F_needless sc_needless (fun h => nomatch h) (fun ds M P E ⟨_, e, _⟩ => by rw [e]; rfl) fun cdv A outer s H E hr ds M Pd PE h => ?_
  obtain ⟨a_script, rfl, h⟩ := h
  have hu := hr.units
  refine WS.ends ?_
  refine ws_expr <| ex_callF (ok_check_script R) (hr.mono (by decide)) R.m_check_script R.F_check_script R.b_check_script <| ea_cons <| ex_var ⟨rfl, rfl⟩ <| ea_nil <| ⟨a_script, rfl, outU (ob h) (fun z1 h => ?_) (fun _ h => dX [] h)⟩
  exact ws_ret <| ex_lcT [("k", 1)] <| ei_rng1 R.n_range <| ex_callB R.n_len PyProof.Rows.Boot.«len» <| ea_cons <| ex_var ⟨rfl, rfl⟩ <| ea_nil <| c_lenOwn (ok_Script_len R) (hr.mono (by decide)) R.M_Script_len.1 R.M_Script_len.2 R.b_Script_len (fun _ => .inl ⟨_, _, rfl, by decide⟩) ⟨a_script, rfl, lenO (ob h) fun z2 h => ⟨z2, rfl, (gd (ob h)).1, have h := (gd (ob h)).2; compT Dat.int Dat.int (xs := (rangeL 0 (Int.toNat z2))) (ob h) trivial (fun x3 _ h s H C cl fp => gc_name  <| fun s H C cl fp => ef_one <| et_cmp <| ex_callF (ok_parting_of R) (hr.mono (by decide)) R.m_parting_of R.F_parting_of R.b_parting_of <| ea_cons <| ex_var ⟨rfl, rfl⟩ <| ea_cons <| ex_mv <| ex_var ⟨rfl, rfl⟩ <| mvD ⟨_, ⟨_, _, _, _, R.L_Script.cl, R.M_Script_without, ok_Script_without R, hr.mono (by decide), R.b_Script_without⟩, fun M => .inl ⟨_, _, rfl, by decide⟩⟩ <| ea_cons <| ex_var ⟨rfl, rfl⟩ <| ea_nil <| ⟨a_script, x3, rfl, outU (ob h) (fun z4 h => ea_nil <| ⟨a_script, z4, rfl, outU (ob h) (fun z5 h => ex_non <| o_isNT (fileD R) (fun _ => ⟨rfl, fun _ z => nomatch z⟩) <| ⟨_, rfl, cif h (fun h => fun s H C cl fp => ex_var ⟨rfl, rfl⟩ <| ⟨rfl, x3, rfl, h⟩) (fun h => ⟨rfl, h⟩)⟩) (fun _ h => h)⟩) (fun _ h => h)⟩) (fun l6 h => (dN [] h))⟩⟩

def S_keeps_holes (R : Prg K mg) : Spc := fun ds M P E => ∃ (a_script : (List StepT)), ds = [((scriptD R) a_script)] ∧ (m_keeps_holes a_script).Out (fun r => P (.bl r) M) (fun x => E (exE R x) M)
theorem ok_keeps_holes (R : Prg K mg) : FnD PR w K mg base 11 R.f_keeps_holes R.d_keeps_holes P_keeps_holes (S_keeps_holes R) := by
  refine fn_d false R.F_keeps_holes sc_keeps_holes (fun h => nomatch h) (fun ds M P E ⟨_, e, _⟩ => by rw [e]; rfl) fun cdv A outer s H E hr ds M Pd PE h => ?_
  obtain ⟨a_script, rfl, h⟩ := h
  have hu := hr.units
  refine WS.ends ?_
  refine ws_expr <| ex_callF (ok_check_script R) (hr.mono (by decide)) R.m_check_script R.F_check_script R.b_check_script <| ea_cons <| ex_var ⟨rfl, rfl⟩ <| ea_nil <| ⟨a_script, rfl, outU (ob h) (fun z1 h => ?_) (fun _ h => dX [] h)⟩
  exact ws_ret <| ex_cmp <| ex_callF (ok_more_of R) (hr.mono (by decide)) R.m_more_of R.F_more_of R.b_more_of <| ea_cons <| ex_var ⟨rfl, rfl⟩ <| ea_cons <| ex_make0 R.K_Script (ok_Script_init R) (hr.mono (by decide)) R.mc_Script R.b1_Script_init (.cons (show RelV .non _ from rfl) .nil) (fun _ => .cons den_non .nil) <| fun q dx _ _ _ => mk_Script (ob h) (fun z2 h => ea_nil <| ⟨a_script, z2, rfl, outU (ob h) (fun z3 h => ex_non <| o_isNT (fileD R) (fun _ => ⟨rfl, fun _ z => nomatch z⟩) <| (dN [] h)) (fun _ h => dX [] h)⟩) (fun _ h => dX [_] h)

def S_keeps_written (R : Prg K mg) : Spc := fun ds M P E => ∃ (a_script : (List StepT)), ds = [((scriptD R) a_script)] ∧ (m_keeps_written a_script).Out (fun r => P (.bl r) M) (fun x => E (exE R x) M)
theorem ok_keeps_written (R : Prg K mg) : FnD PR w K mg base 11 R.f_keeps_written R.d_keeps_written P_keeps_written (S_keeps_written R) := by
  refine fn_d false R.F_keeps_written sc_keeps_written (fun h => nomatch h) (fun ds M P E ⟨_, e, _⟩ => by rw [e]; rfl) fun cdv A outer s H E hr ds M Pd PE h => ?_
  obtain ⟨a_script, rfl, h⟩ := h
  have hu := hr.units
  refine WS.ends ?_
  refine ws_expr <| ex_callF (ok_check_script R) (hr.mono (by decide)) R.m_check_script R.F_check_script R.b_check_script <| ea_cons <| ex_var ⟨rfl, rfl⟩ <| ea_nil <| ⟨a_script, rfl, outU (ob h) (fun z1 h => ?_) (fun _ h => dX [] h)⟩
  exact ws_ret <| ex_cmp <| ex_callF (ok_more_of R) (hr.mono (by decide)) R.m_more_of R.F_more_of R.b_more_of <| ea_cons <| ex_make0 R.K_Script (ok_Script_init R) (hr.mono (by decide)) R.mc_Script R.b1_Script_init (.cons (show RelV .non _ from rfl) .nil) (fun _ => .cons den_non .nil) <| fun q dx _ _ _ => mk_Script (ob h) (fun z2 h => ea_cons <| ex_var ⟨rfl, rfl⟩ <| ea_nil <| ⟨z2, a_script, rfl, outU (ob h) (fun z3 h => ex_non <| o_isNT (fileD R) (fun _ => ⟨rfl, fun _ z => nomatch z⟩) <| (dN [] h)) (fun _ h => dX [] h)⟩) (fun _ h => dX [_] h)

def S_law_call (R : Prg K mg) : Spc := fun ds M P E => ∃ (a_way : Int) (a_one : List StepT) (a_other : List StepT), ds = [(.int a_way), ((scriptD R) a_one), ((scriptD R) a_other)] ∧ (m_law_call a_way a_one a_other).Out (fun r => P ((anyD (clR R)) r) M) (fun x => E (exE R x) M)
theorem ok_law_call (R : Prg K mg) : FnD PR w K mg base 13 R.f_law_call R.d_law_call P_law_call (S_law_call R) := by
  refine fn_d false R.F_law_call sc_law_call (fun h => nomatch h) (fun ds M P E ⟨_, _, _, e, _⟩ => by rw [e]; rfl) fun cdv A outer s H E hr ds M Pd PE h => ?_
  obtain ⟨a_way, a_one, a_other, rfl, h⟩ := h
  have hu := hr.units
  refine WS.ends ?_
  unfold m_law_call at h
  by_cases w0 : a_way = 0
  · subst w0
    rw [decide_eq_true rfl, cond_true] at h
    refine ws_if <| et_cmp <| ex_var ⟨rfl, rfl⟩ <| ex_int <| o_lt <| ⟨_, rfl, (fun _ => ?_), fun z => nomatch z⟩
    exact ws_ret <| ex_callX <| ex_ix <| ex_lst <| ea_cons <| ex_gref R.m_alike <| ea_cons <| ex_gref R.m_parting <| ea_cons <| ex_gref R.m_never_more <| ea_cons <| ex_gref R.m_more_file <| ea_cons <| ex_gref R.m_exchangeable <| ea_nil ⟨ln, ex_var ⟨rfl, rfl⟩ <| i_lst (d := .raw (.ref R.f_alike)) rfl ⟨_, _, _, _, _, rfl, ok_alike R, (hr.mono (by decide)), R.F_alike.kp, R.b_alike, ea_cons <| ex_var ⟨rfl, rfl⟩ <| ea_cons <| ex_var ⟨rfl, rfl⟩ <| ea_nil (ap_all ⟨a_one, a_other, rfl, out_mono (ob h) (fun z h => by exact UpP.mk (dN [] (by have h2 : Pd (anyD (clR R) (Any.bl z)) M := h; simpa only [anyD] using h2))) (fun _ h => UpP.mk (dX [] h))⟩)⟩⟩
  rw [decide_eq_false w0, cond_false] at h
  by_cases w1 : a_way = 1
  · subst w1
    rw [decide_eq_true rfl, cond_true] at h
    refine ws_if <| et_cmp <| ex_var ⟨rfl, rfl⟩ <| ex_int <| o_lt <| ⟨_, rfl, (fun _ => ?_), fun z => nomatch z⟩
    exact ws_ret <| ex_callX <| ex_ix <| ex_lst <| ea_cons <| ex_gref R.m_alike <| ea_cons <| ex_gref R.m_parting <| ea_cons <| ex_gref R.m_never_more <| ea_cons <| ex_gref R.m_more_file <| ea_cons <| ex_gref R.m_exchangeable <| ea_nil ⟨ln, ex_var ⟨rfl, rfl⟩ <| i_lst (d := .raw (.ref R.f_parting)) rfl ⟨_, _, _, _, _, rfl, ok_parting R, (hr.mono (by decide)), R.F_parting.kp, R.b_parting, ea_cons <| ex_var ⟨rfl, rfl⟩ <| ea_cons <| ex_var ⟨rfl, rfl⟩ <| ea_nil (ap_all ⟨a_one, a_other, rfl, out_mono (ob h) (fun z h => by exact UpP.mk (dN [] (by cases z with | none => exact (show Pd (anyD (clR R) Any.non) M from h) | some z => (have h2 : Pd (anyD (clR R) (Any.obj .file [.str z])) M := h; simpa only [anyD, anyDL, clR] using h2)))) (fun _ h => UpP.mk (dX [] h))⟩)⟩⟩
  rw [decide_eq_false w1, cond_false] at h
  by_cases w2 : a_way = 2
  · subst w2
    rw [decide_eq_true rfl, cond_true] at h
    refine ws_if <| et_cmp <| ex_var ⟨rfl, rfl⟩ <| ex_int <| o_lt <| ⟨_, rfl, (fun _ => ?_), fun z => nomatch z⟩
    exact ws_ret <| ex_callX <| ex_ix <| ex_lst <| ea_cons <| ex_gref R.m_alike <| ea_cons <| ex_gref R.m_parting <| ea_cons <| ex_gref R.m_never_more <| ea_cons <| ex_gref R.m_more_file <| ea_cons <| ex_gref R.m_exchangeable <| ea_nil ⟨ln, ex_var ⟨rfl, rfl⟩ <| i_lst (d := .raw (.ref R.f_never_more)) rfl ⟨_, _, _, _, _, rfl, ok_never_more R, (hr.mono (by decide)), R.F_never_more.kp, R.b_never_more, ea_cons <| ex_var ⟨rfl, rfl⟩ <| ea_cons <| ex_var ⟨rfl, rfl⟩ <| ea_nil (ap_all ⟨a_one, a_other, rfl, out_mono (ob h) (fun z h => by exact UpP.mk (dN [] (by have h2 : Pd (anyD (clR R) (Any.bl z)) M := h; simpa only [anyD] using h2))) (fun _ h => UpP.mk (dX [] h))⟩)⟩⟩
  rw [decide_eq_false w2, cond_false] at h
  by_cases w3 : a_way = 3
  · subst w3
    rw [decide_eq_true rfl, cond_true] at h
    refine ws_if <| et_cmp <| ex_var ⟨rfl, rfl⟩ <| ex_int <| o_lt <| ⟨_, rfl, (fun _ => ?_), fun z => nomatch z⟩
    exact ws_ret <| ex_callX <| ex_ix <| ex_lst <| ea_cons <| ex_gref R.m_alike <| ea_cons <| ex_gref R.m_parting <| ea_cons <| ex_gref R.m_never_more <| ea_cons <| ex_gref R.m_more_file <| ea_cons <| ex_gref R.m_exchangeable <| ea_nil ⟨ln, ex_var ⟨rfl, rfl⟩ <| i_lst (d := .raw (.ref R.f_more_file)) rfl ⟨_, _, _, _, _, rfl, ok_more_file R, (hr.mono (by decide)), R.F_more_file.kp, R.b_more_file, ea_cons <| ex_var ⟨rfl, rfl⟩ <| ea_cons <| ex_var ⟨rfl, rfl⟩ <| ea_nil (ap_all ⟨a_one, a_other, rfl, out_mono (ob h) (fun z h => by exact UpP.mk (dN [] (by cases z with | none => exact (show Pd (anyD (clR R) Any.non) M from h) | some z => (have h2 : Pd (anyD (clR R) (Any.obj .file [.str z])) M := h; simpa only [anyD, anyDL, clR] using h2)))) (fun _ h => UpP.mk (dX [] h))⟩)⟩⟩
  rw [decide_eq_false w3, cond_false] at h
  by_cases w4 : a_way = 4
  · subst w4
    rw [decide_eq_true rfl, cond_true] at h
    refine ws_if <| et_cmp <| ex_var ⟨rfl, rfl⟩ <| ex_int <| o_lt <| ⟨_, rfl, (fun _ => ?_), fun z => nomatch z⟩
    exact ws_ret <| ex_callX <| ex_ix <| ex_lst <| ea_cons <| ex_gref R.m_alike <| ea_cons <| ex_gref R.m_parting <| ea_cons <| ex_gref R.m_never_more <| ea_cons <| ex_gref R.m_more_file <| ea_cons <| ex_gref R.m_exchangeable <| ea_nil ⟨ln, ex_var ⟨rfl, rfl⟩ <| i_lst (d := .raw (.ref R.f_exchangeable)) rfl ⟨_, _, _, _, _, rfl, ok_exchangeable R, (hr.mono (by decide)), R.F_exchangeable.kp, R.b_exchangeable, ea_cons <| ex_var ⟨rfl, rfl⟩ <| ea_cons <| ex_var ⟨rfl, rfl⟩ <| ea_nil (ap_all ⟨a_one, a_other, rfl, out_mono (ob h) (fun z h => by exact UpP.mk (dN [] (by have h2 : Pd (anyD (clR R) (Any.bl z)) M := h; simpa only [anyD] using h2))) (fun _ h => UpP.mk (dX [] h))⟩)⟩⟩
  rw [decide_eq_false w4, cond_false] at h
  by_cases w5 : a_way = 5
  · subst w5
    rw [decide_eq_true rfl, cond_true] at h
    refine ws_if <| et_cmp <| ex_var ⟨rfl, rfl⟩ <| ex_int <| o_lt <| ⟨_, rfl, (fun z => nomatch z), fun _ => ws_nil ?_⟩
    exact ws_ret <| ex_callX <| ex_ix <| ex_lst <| ea_cons <| ex_gref R.m_needless <| ea_cons <| ex_gref R.m_keeps_holes <| ea_cons <| ex_gref R.m_keeps_written <| ea_nil ⟨ln, ex_bin <| ex_var ⟨rfl, rfl⟩ <| ex_int <| o_sub <| i_lst (d := .raw (.ref R.f_needless)) rfl ⟨_, _, _, _, _, rfl, ok_needless R, (hr.mono (by decide)), R.F_needless.kp, R.b_needless, ea_cons <| ex_var ⟨rfl, rfl⟩ <| ea_nil (ap_all ⟨a_one, rfl, out_mono (ob h) (fun z h => by exact UpP.mk (dN [] (by have h2 : Pd (anyD (clR R) (Any.lst (z.map Any.int))) M := h; simp only [anyD, anyDL_map, List.map_map] at h2; exact h2))) (fun _ h => UpP.mk (dX [] h))⟩)⟩⟩
  rw [decide_eq_false w5, cond_false] at h
  by_cases w6 : a_way = 6
  · subst w6
    rw [decide_eq_true rfl, cond_true] at h
    refine ws_if <| et_cmp <| ex_var ⟨rfl, rfl⟩ <| ex_int <| o_lt <| ⟨_, rfl, (fun z => nomatch z), fun _ => ws_nil ?_⟩
    exact ws_ret <| ex_callX <| ex_ix <| ex_lst <| ea_cons <| ex_gref R.m_needless <| ea_cons <| ex_gref R.m_keeps_holes <| ea_cons <| ex_gref R.m_keeps_written <| ea_nil ⟨ln, ex_bin <| ex_var ⟨rfl, rfl⟩ <| ex_int <| o_sub <| i_lst (d := .raw (.ref R.f_keeps_holes)) rfl ⟨_, _, _, _, _, rfl, ok_keeps_holes R, (hr.mono (by decide)), R.F_keeps_holes.kp, R.b_keeps_holes, ea_cons <| ex_var ⟨rfl, rfl⟩ <| ea_nil (ap_all ⟨a_one, rfl, out_mono (ob h) (fun z h => by exact UpP.mk (dN [] (by have h2 : Pd (anyD (clR R) (Any.bl z)) M := h; simpa only [anyD] using h2))) (fun _ h => UpP.mk (dX [] h))⟩)⟩⟩
  rw [decide_eq_false w6, cond_false] at h
  by_cases w7 : a_way = 7
  · subst w7
    rw [decide_eq_true rfl, cond_true] at h
    refine ws_if <| et_cmp <| ex_var ⟨rfl, rfl⟩ <| ex_int <| o_lt <| ⟨_, rfl, (fun z => nomatch z), fun _ => ws_nil ?_⟩
    exact ws_ret <| ex_callX <| ex_ix <| ex_lst <| ea_cons <| ex_gref R.m_needless <| ea_cons <| ex_gref R.m_keeps_holes <| ea_cons <| ex_gref R.m_keeps_written <| ea_nil ⟨ln, ex_bin <| ex_var ⟨rfl, rfl⟩ <| ex_int <| o_sub <| i_lst (d := .raw (.ref R.f_keeps_written)) rfl ⟨_, _, _, _, _, rfl, ok_keeps_written R, (hr.mono (by decide)), R.F_keeps_written.kp, R.b_keeps_written, ea_cons <| ex_var ⟨rfl, rfl⟩ <| ea_nil (ap_all ⟨a_one, rfl, out_mono (ob h) (fun z h => by exact UpP.mk (dN [] (by have h2 : Pd (anyD (clR R) (Any.bl z)) M := h; simpa only [anyD] using h2))) (fun _ h => UpP.mk (dX [] h))⟩)⟩⟩
  rw [decide_eq_false w7, cond_false] at h
  exact h.elim

def S_law_told__v3 (R : Prg K mg) : Spc := fun ds M P E => ∃ (a_way : Int) (a_one : (List StepT)) (a_other : (List StepT)), ds = [(.int a_way), ((scriptD R) a_one), ((scriptD R) a_other)] ∧ (m_law_told__v3 a_way a_one a_other).Out (fun r => P ((lstD (anyD (clR R))) r) M) (fun x => E (exE R x) M)
theorem ok_law_told__v3 (R : Prg K mg) : FnD PR w K mg base 14 R.f_law_told R.d_law_told P_law_told (S_law_told__v3 R) := by
  refine fn_d false R.F_law_told sc_law_told (fun h => nomatch h) (fun ds M P E ⟨_, _, _, e, _⟩ => by rw [e]; rfl) fun cdv A outer s H E hr ds M Pd PE h => ?_
  obtain ⟨a_way, a_one, a_other, rfl, h⟩ := h
  have hu := hr.units
  refine WS.ends ?_
  refine ws_set <| ex_lst <| ea_cons <| ex_asA <| ex_str <| ⟨anyD (clR R) (Any.str ("none" : Str)), (by first | rfl | (simp only [anyD, anyDL, anyDL_map, List.map_map]; done) | (simp only [anyD, anyDL, anyDL_map, List.map_map]; rfl) | (simp only [anyD, anyDL, anyDL_map, List.map_map, stepA_comp, stepA_D]; rfl) | (simp only [anyD, anyDL, anyDL_map, List.map_map, stepA_comp, stepA_D]; done)), ea_nil ⟨ln, ?_⟩⟩
  refine ws_tryJ (exE R) (fun Q τ M' => ∃ s1 : (List Any), ∃ d4, [some (.int a_way), some ((scriptD R) a_one), some ((scriptD R) a_other), some ((lstD (anyD (clR R))) s1), d4] = τ ∧ M = M' ∧ Q s1) (l₀ := ⟨_, _, _, _, _, _, _⟩) (ls := []) (ob h) rfl rfl (.cons ⟨rfl, (by show (("InvalidScript" : Str) == ("__debug__" : Str)) = false; decide), .inl R.mc_InvalidScript⟩ rfl rfl (.nil)) (fun h pn xe po => ?b6) ?x7 ?k8
  case b6 =>
    refine ws_set <| ex_lst <| ea_cons <| ex_asA <| ex_callF (ok_law_call R) (hr.mono (by decide)) R.m_law_call R.F_law_call R.b_law_call <| ea_cons <| ex_var ⟨rfl, rfl⟩ <| ea_cons <| ex_var ⟨rfl, rfl⟩ <| ea_cons <| ex_var ⟨rfl, rfl⟩ <| ea_nil <| ⟨a_way, a_one, a_other, rfl, outU (ob h) (fun z2 h => ⟨_, rfl, ea_cons <| ex_asA <| ex_int <| ⟨anyD (clR R) (Any.int (0 : Int)), (by first | rfl | (simp only [anyD, anyDL, anyDL_map, List.map_map]; done) | (simp only [anyD, anyDL, anyDL_map, List.map_map]; rfl) | (simp only [anyD, anyDL, anyDL_map, List.map_map, stepA_comp, stepA_D]; rfl) | (simp only [anyD, anyDL, anyDL_map, List.map_map, stepA_comp, stepA_D]; done)), ea_cons <| ex_asA <| ex_int <| ⟨anyD (clR R) (Any.int (0 : Int)), (by first | rfl | (simp only [anyD, anyDL, anyDL_map, List.map_map]; done) | (simp only [anyD, anyDL, anyDL_map, List.map_map]; rfl) | (simp only [anyD, anyDL, anyDL_map, List.map_map, stepA_comp, stepA_D]; rfl) | (simp only [anyD, anyDL, anyDL_map, List.map_map, stepA_comp, stepA_D]; done)), ea_nil ⟨ln, ?_⟩⟩⟩⟩) (fun _ h => tX [] h)⟩
    exact ws_nil ⟨([z2, (Any.int (0 : Int)), (Any.int (0 : Int))] : List Any), _, rfl, rfl, h⟩
  case x7 =>
    rintro ⟨kk, x4⟩ h
    cases kk with
    | file =>
      refine ⟨false, R.e_InvalidFile_InvalidScript, (fun z => nomatch z), fun _ => (fun _ h => dX [] h) _ h⟩
    | number =>
      refine ⟨false, R.e_InvalidNumber_InvalidScript, (fun z => nomatch z), fun _ => (fun _ h => dX [] h) _ h⟩
    | script =>
      refine ⟨true, R.e_InvalidScript_InvalidScript, fun _ => ⟨List.cons_ne_nil _ _, fun a dd oe pn hz hv => ?_⟩, fun z => nomatch z⟩
      refine ws_set <| ex_lst <| ea_cons <| ex_asA <| ex_ev R.x_InvalidScript R.S_InvalidScript.nf hz hv ⟨rfl, rfl⟩ rfl <| ⟨_, rfl, ea_nil ⟨ln, ?_⟩⟩
      exact ws_nil ⟨([x4] : List Any), _, rfl, rfl, h⟩
    | _ => exact h.elim
  case k8 =>
    rintro _ _ ⟨s1, d4, rfl, rfl, h⟩
    exact ws_ret <| ex_asA <| ex_var ⟨rfl, rfl⟩ <| ⟨_, rfl, (dN [] h)⟩
end
end Kh

set_option Elab.async false
set_option linter.all false
set_option maxRecDepth 100000
set_option maxHeartbeats 4000000
set_option exponentiation.threshold 20000
namespace Kh
open PySem PySem.Spec L2
/-! ### words for what the defs compute -/
section
variable {α β γ σ ρ : Type}
theorem bind_pure : ∀ {m : Res α}, (m.bind fun z => .ok z) = m
  | .ok _ => rfl
  | .err _ => rfl
  | .bad => rfl
  | .all f => congrArg Res.all (funext fun q => bind_pure (m := f q))
theorem bind_eq {m : Res α} {a : α} {k : α → Res β} (h : m = .ok a) : m.bind k = k a := by rw [h]; rfl
theorem foldR_append {f : σ → α → Res σ} : ∀ {xs ys : List α} {s : σ}, foldR f (xs ++ ys) s = (foldR f xs s).bind (foldR f ys)
  | [], ys, s => rfl
  | x :: xs, ys, s => by
    simp only [List.cons_append, foldR_cons, bind_bind]
    congr 1; funext s'; exact foldR_append
theorem foldR_inv {f : σ → α → Res σ} (I : σ → Prop) : ∀ {xs : List α} {s : σ}, I s → (∀ s x, I s → x ∈ xs → ∃ s', f s x = .ok s' ∧ I s') → ∃ s', foldR f xs s = .ok s' ∧ I s'
  | [], s, h, _ => ⟨s, rfl, h⟩
  | x :: xs, s, h, hf => by
    obtain ⟨s1, e1, h1⟩ := hf s x h List.mem_cons_self
    rw [foldR_cons, e1]
    exact foldR_inv I h1 fun s y hs hy => hf s y hs (List.mem_cons_of_mem _ hy)
/-- a loop whose turns give what g gives -/
theorem foldR_foldl {f : σ → α → Res σ} (g : σ → α → σ) (I : σ → Prop) : ∀ {xs : List α} {s : σ}, I s → (∀ s x, I s → x ∈ xs → f s x = .ok (g s x) ∧ I (g s x)) → foldR f xs s = .ok (xs.foldl g s)
  | [], s, h, _ => rfl
  | x :: xs, s, h, hf => by
    obtain ⟨e1, h1⟩ := hf s x h List.mem_cons_self
    rw [foldR_cons, e1, bind_ok, List.foldl_cons]
    exact foldR_foldl g I h1 fun s y hs hy => hf s y hs (List.mem_cons_of_mem _ hy)
theorem rangeL_succ {lo : Int} {n : Nat} : rangeL lo (n + 1) = rangeL lo n ++ [lo + (n : Int)] := by simp [rangeL, List.range_succ]
theorem rangeL_length {lo : Int} {n : Nat} : (rangeL lo n).length = n := by simp [rangeL]
theorem rangeL_zero {lo : Int} : rangeL lo 0 = [] := rfl
theorem rangeL_cons {lo : Int} {n : Nat} : rangeL lo (n + 1) = lo :: rangeL (lo + 1) n := by
  simp only [rangeL, List.range_succ_eq_map, List.map_cons, List.map_map]
  congr 1
  · simp
  · apply List.map_congr_left; intro x _; simp [Function.comp]; omega
theorem mem_rangeL {lo i : Int} {n : Nat} : i ∈ rangeL lo n ↔ lo ≤ i ∧ i < lo + n := by
  simp only [rangeL, List.mem_map, List.mem_range]
  constructor
  · rintro ⟨k, hk, rfl⟩; omega
  · rintro ⟨h1, h2⟩; exact ⟨(i - lo).toNat, by omega, by omega⟩
theorem rangeL_get {lo : Int} {n i : Nat} (h : i < n) : (rangeL lo n)[i]? = some (lo + (i : Int)) := by simp [rangeL, h]
/-- a loop over a range: F i is the state ahead of turn i -/
theorem foldR_range {f : σ → Int → Res σ} {lo : Int} (F : Nat → σ) : ∀ {n : Nat}, (∀ i, i < n → f (F i) (lo + (i : Int)) = .ok (F (i + 1))) → foldR f (rangeL lo n) (F 0) = .ok (F n)
  | 0, _ => rfl
  | n + 1, h => by
    rw [rangeL_succ, foldR_append, foldR_range F fun i hi => h i (by omega), bind_ok, foldR_cons, h n (by omega)]
    rfl
theorem foldR_rangeI {f : σ → Int → Res σ} {lo : Int} (I : Nat → σ → Prop) {s0 : σ} (h0 : I 0 s0) : ∀ {n : Nat}, (∀ i s, i < n → I i s → ∃ s', f s (lo + (i : Int)) = .ok s' ∧ I (i + 1) s') → ∃ s', foldR f (rangeL lo n) s0 = .ok s' ∧ I n s'
  | 0, _ => ⟨s0, rfl, h0⟩
  | n + 1, h => by
    obtain ⟨s1, e1, h1⟩ := foldR_rangeI I h0 (n := n) fun i s hi => h i s (by omega)
    obtain ⟨s2, e2, h2⟩ := h n s1 (by omega) h1
    refine ⟨s2, ?_, h2⟩
    rw [rangeL_succ, foldR_append, e1, bind_ok, foldR_cons, e2]
    rfl
/-- a loop that is not left early -/
theorem forR_inv {f : σ → α → Res (Ctl σ ρ)} (I : σ → Prop) : ∀ {xs : List α} {s : σ}, I s → (∀ s x, I s → x ∈ xs → ∃ s', f s x = .ok (.nx s') ∧ I s') → ∃ s', forR f xs s = .ok (.nx s') ∧ I s'
  | [], s, h, _ => ⟨s, rfl, h⟩
  | x :: xs, s, h, hf => by
    obtain ⟨s1, e1, h1⟩ := hf s x h List.mem_cons_self
    rw [forR_cons, e1]
    exact forR_inv I h1 fun s y hs hy => hf s y hs (List.mem_cons_of_mem _ hy)
theorem forR_append {f : σ → α → Res (Ctl σ ρ)} : ∀ {xs ys : List α} {s s' : σ}, forR f xs s = .ok (.nx s') → (∀ s x s', x ∈ xs → f s x ≠ .ok (.bk s')) → forR f (xs ++ ys) s = forR f ys s'
  | [], ys, s, s', h, _ => by cases h; rfl
  | x :: xs, ys, s, s', h, hb => by
    simp only [List.cons_append, forR_cons] at h ⊢
    cases e : f s x with
    | ok c =>
      rw [e] at h
      cases c with
      | nx s1 => exact forR_append h fun s x s' hx => hb s x s' (List.mem_cons_of_mem _ hx)
      | bk s1 => exact absurd e (hb s x s1 List.mem_cons_self)
      | rt r => cases h
    | err x => rw [e] at h; cases h
    | bad => rw [e] at h; cases h
    | all g => rw [e] at h; cases h
theorem compL_map {f : α → Res (Option β)} (g : α → β) : ∀ {xs : List α}, (∀ x ∈ xs, f x = .ok (some (g x))) → compL f xs = .ok (xs.map g)
  | [], _ => rfl
  | x :: xs, h => by
    show (f x).bind _ = _
    rw [h x List.mem_cons_self, bind_ok, compL_map g fun y hy => h y (List.mem_cons_of_mem _ hy)]
    rfl
theorem compR_map {f : α → Res (Option β)} (g : α → β) {xs : List α} (hl : xs.length ≤ sizeLine) (h : ∀ x ∈ xs, f x = .ok (some (g x))) : compR f xs = .ok (xs.map g) := by
  unfold compR; rw [if_pos hl, compL_map g h]; rfl
theorem compL_fm {f : α → Res (Option β)} (g : α → Option β) : ∀ {xs : List α}, (∀ x ∈ xs, f x = .ok (g x)) → compL f xs = .ok (xs.filterMap g)
  | [], _ => rfl
  | x :: xs, h => by
    show (f x).bind _ = _
    rw [h x List.mem_cons_self, bind_ok, compL_fm g fun y hy => h y (List.mem_cons_of_mem _ hy), List.filterMap_cons]
    cases g x <;> rfl
theorem compR_fm {f : α → Res (Option β)} (g : α → Option β) {xs : List α} (hl : xs.length ≤ sizeLine) (h : ∀ x ∈ xs, f x = .ok (g x)) : compR f xs = .ok (xs.filterMap g) := by
  unfold compR; rw [if_pos hl, compL_fm g h]; rfl
/-- with a test -/
theorem compR_filter {f : α → Res (Option α)} (p : α → Bool) {xs : List α} (hl : xs.length ≤ sizeLine) (h : ∀ x ∈ xs, f x = .ok (if p x then some x else none)) : compR f xs = .ok (xs.filter p) := by
  rw [compR_fm (fun x => if p x then some x else none) hl h]
  congr 1
  clear h hl
  induction xs with
  | nil => rfl
  | cons x xs ih => rw [List.filterMap_cons, List.filter_cons]; cases p x <;> simp [ih]
theorem compR_none {f : α → Res (Option β)} {xs : List α} (hl : xs.length ≤ sizeLine) (h : ∀ x ∈ xs, f x = .ok none) : compR f xs = .ok [] := by
  rw [compR_fm (fun _ => none) hl h]
  congr 1
  clear h hl
  induction xs with
  | nil => rfl
  | cons x xs ih => simp
theorem compR_nil {f : α → Res (Option β)} : compR f [] = .ok [] := by unfold compR; rw [if_pos (by simp)]; rfl
theorem peq_ok [DecidableEq α] {ok : α → Bool} {a b : α} (h1 : ok a = true) (h2 : ok b = true) : peq ok a b = .ok (decide (a = b)) := guard_ok ⟨h1, h2⟩
end
theorem sz : sizeLine = 16777216 := sizeLine_eq
theorem lg {i : Int} {n : Nat} (h : i.natAbs < 2 ^ n) (h0 : 0 < n) : i.natAbs.log2 < n := PySem.Flt.log2_lt_of h0 h
theorem pdiv_ok {i j : Int} (h : 0 < j) (hb : j.natAbs < 2 ^ 8000) : pdiv i j = .ok (i / j) := guard_ok ⟨h, Nat.lt_of_lt_of_le (lg hb (by decide)) (by decide)⟩
theorem pmod_ok {i j : Int} (h : 0 < j) : pmod i j = .ok (i % j) := guard_ok h
theorem pmul_ok {i j : Int} (hi : i.natAbs < 2 ^ 8000) (hj : j.natAbs < 2 ^ 8000) : pmul i j = .ok (i * j) := guard_ok (by have := lg hi (by decide); have := lg hj (by decide); omega)
/-- a number far below the greatest -/
def Sm (n : Nat) (i : Int) : Prop := i.natAbs < 2 ^ n
theorem Sm.up {n m : Nat} {i : Int} (h : Sm n i) (hm : n ≤ m) : Sm m i := Nat.lt_of_lt_of_le h (Nat.pow_le_pow_right (by decide) hm)
theorem Sm.mul {n m : Nat} {i j : Int} (h : Sm n i) (g : Sm m j) : Sm (n + m) (i * j) := by
  unfold Sm at *; rw [Int.natAbs_mul, Nat.pow_add]; exact Nat.mul_lt_mul'' h g
theorem Sm.add {n : Nat} {i j : Int} (h : Sm n i) (g : Sm n j) : Sm (n + 1) (i + j) := by
  unfold Sm at *; rw [Nat.pow_succ]; omega
theorem Sm.sub {n : Nat} {i j : Int} (h : Sm n i) (g : Sm n j) : Sm (n + 1) (i - j) := by
  unfold Sm at *; rw [Nat.pow_succ]; omega
theorem Sm.of {n : Nat} {i : Int} (h0 : 0 ≤ i) {b : Int} (hb : i ≤ b) (hn : Sm n b) : Sm n i := by unfold Sm at *; omega
theorem pix_nat {α : Type} {xs : List α} {i : Nat} {x : α} (h : xs[i]? = some x) : pix xs (i : Int) = .ok x := by unfold pix; rw [atI_nat h]
theorem small62_of {i : Int} (h0 : 0 ≤ i) (h : i < 1000000000) : small62 i := by unfold small62; omega
/-! the numbers that a script's number draws -/
def Pur (p : List Int) : Prop := ∃ a b c : Int, p = [a, b, c]
def Res.isT : Res Bool → Bool
  | .ok true => true
  | _ => false
theorem of_isT {m : Res Bool} (h : m.isT = true) : m = .ok true := by
  cases m with
  | ok b => cases b <;> first | rfl | cases h
  | err x => cases h
  | bad => cases h
  | all g => cases h
/-! ### what is computed is so: m.Ok P -/
def Res.Ok {α : Type} : Res α → (α → Prop) → Prop
  | .ok a, P => P a
  | _, _ => False
theorem ok_out {α : Type} {m : Res α} {P : α → Prop} {E : Er → Prop} (h : m.Ok P) : m.Out P E := by
  cases m with
  | ok a => exact h
  | _ => exact h.elim
section
variable {α β γ σ ρ : Type}
theorem ok_of {m : Res α} {a : α} {P : α → Prop} (e : m = .ok a) (h : P a) : m.Ok P := by rw [e]; exact h
theorem ok_eq {m : Res α} {a : α} (h : m.Ok fun b => b = a) : m = .ok a := by
  cases m with
  | ok b => rw [show b = a from h]
  | err x => exact h.elim
  | bad => exact h.elim
  | all g => exact h.elim
theorem Res.Ok.get {m : Res α} {P : α → Prop} (h : m.Ok P) : ∃ a, m = .ok a ∧ P a := by
  cases m with
  | ok b => exact ⟨b, rfl, h⟩
  | err x => exact h.elim
  | bad => exact h.elim
  | all g => exact h.elim
theorem Res.Ok.imp {m : Res α} {P Q : α → Prop} (h : m.Ok P) (i : ∀ a, P a → Q a) : m.Ok Q := by
  obtain ⟨a, e, q⟩ := h.get; rw [e]; exact i a q
theorem bi {m : Res α} {k : α → Res β} {Q : α → Prop} {P : β → Prop} (h : m.Ok Q) (hk : ∀ a, Q a → (k a).Ok P) : (m.bind k).Ok P := by
  obtain ⟨a, e, q⟩ := h.get; rw [e]; exact hk a q
theorem be {m : Res α} {k : α → Res β} {a : α} {P : β → Prop} (e : m = .ok a) (hk : (k a).Ok P) : (m.bind k).Ok P := by rw [e]; exact hk
/-- a test that is told -/
theorem cT {c : Bool} {a b : Res α} {P : α → Prop} (e : c = true) (h : a.Ok P) : (cond c a b).Ok P := by rw [e]; exact h
theorem cF {c : Bool} {a b : Res α} {P : α → Prop} (e : c = false) (h : b.Ok P) : (cond c a b).Ok P := by rw [e]; exact h
theorem cB {c : Bool} {a b : Res α} {P : α → Prop} (h1 : c = true → a.Ok P) (h2 : c = false → b.Ok P) : (cond c a b).Ok P := by
  cases c with
  | true => exact h1 rfl
  | false => exact h2 rfl
/-- decide p -/
theorem cD {p : Prop} [Decidable p] {a b : Res α} {P : α → Prop} (h1 : p → a.Ok P) (h2 : ¬ p → b.Ok P) : (cond (decide p) a b).Ok P := cB (fun e => h1 (of_decide_eq_true e)) fun e => h2 (of_decide_eq_false e)
theorem cDT {p : Prop} [Decidable p] {a b : Res α} {P : α → Prop} (hp : p) (h : a.Ok P) : (cond (decide p) a b).Ok P := cT (decide_eq_true hp) h
theorem cDF {p : Prop} [Decidable p] {a b : Res α} {P : α → Prop} (hp : ¬ p) (h : b.Ok P) : (cond (decide p) a b).Ok P := cF (decide_eq_false hp) h
theorem cNT {p : Prop} [Decidable p] {a b : Res α} {P : α → Prop} (hp : ¬ p) (h : a.Ok P) : (cond (!decide p) a b).Ok P := cT (by rw [decide_eq_false hp]; rfl) h
theorem cNF {p : Prop} [Decidable p] {a b : Res α} {P : α → Prop} (hp : p) (h : b.Ok P) : (cond (!decide p) a b).Ok P := cF (by rw [decide_eq_true hp]; rfl) h
theorem bg {c : Prop} [Decidable c] {x : α} {k : α → Res β} {P : β → Prop} (hc : c) (h : (k x).Ok P) : ((guard c x).bind k).Ok P := be (guard_ok hc) h
theorem bq [DecidableEq α] {ok : α → Bool} {a b : α} {k : Bool → Res β} {P : β → Prop} (h1 : ok a = true) (h2 : ok b = true) (h : (k (decide (a = b))).Ok P) : ((peq ok a b).bind k).Ok P := be (peq_ok h1 h2) h
theorem forO {f : σ → α → Res (Ctl σ ρ)} {k : σ → Res β} {r : ρ → Res β} {xs : List α} {s : σ} {P : β → Prop} (I : σ → Prop) (h0 : I s) (step : ∀ s x, I s → x ∈ xs → (f s x).Ok fun c => ∃ s', c = .nx s' ∧ I s') (fin : ∀ s, I s → (k s).Ok P) : ((forR f xs s).bind (Ctl.fin k r)).Ok P := by
  obtain ⟨s', e, h⟩ := forR_inv I h0 fun s x hs hx => by
    obtain ⟨c, e, s', rfl, h⟩ := (step s x hs hx).get
    exact ⟨s', e, h⟩
  rw [e]; exact fin s' h
theorem foldO {f : σ → α → Res σ} {k : σ → Res β} {xs : List α} {s : σ} {P : β → Prop} (I : σ → Prop) (h0 : I s) (step : ∀ s x, I s → x ∈ xs → (f s x).Ok I) (fin : ∀ s, I s → (k s).Ok P) : ((foldR f xs s).bind k).Ok P := by
  obtain ⟨s', e, h⟩ := foldR_inv I h0 fun s x hs hx => (step s x hs hx).get
  rw [e]; exact fin s' h
theorem nxO {s : σ} {I : σ → Prop} (h : I s) : (Res.ok (Ctl.nx s : Ctl σ ρ)).Ok fun c => ∃ s', c = .nx s' ∧ I s' := ⟨s, rfl, h⟩
end
theorem pix_of {α : Type} {xs : List α} {i n : Int} (h0 : 0 ≤ i) (h1 : i < n) {P : α → Prop} (hp : ∀ x ∈ xs, P x) (hn : n = (xs.length : Int) := by rfl) : (pix xs i).Ok P := by
  obtain ⟨k, rfl⟩ := Int.eq_ofNat_of_zero_le h0
  have hk : k < xs.length := by omega
  exact ok_of (pix_nat (List.getElem?_eq_getElem hk)) (hp _ (List.getElem_mem hk))
theorem purse_ok {ns : List Int} {at_ : Int} : ∃ p, m_law_purse ns at_ = .ok p ∧ Pur p := by
  unfold m_law_purse
  rw [pmod_ok (by decide +kernel), bind_ok, pmul, guard_ok, bind_ok]
  · exact ⟨_, rfl, _, _, _, rfl⟩
  · generalize (cutD ns (some at_) (some (at_ + 1))).sum = c
    have h1 : ((if decide ((10 : Int) ^ Int.toNat 18 ≤ c) = true then (1 : Int) else 0)).natAbs.log2 ≤ 0 := by split <;> decide
    have h2 := Int.emod_nonneg c (by decide +kernel : ((10 : Int) ^ Int.toNat 60) ^ Int.toNat 10 ≠ 0)
    have h3 := Int.emod_lt_of_pos c (by decide +kernel : (0 : Int) < ((10 : Int) ^ Int.toNat 60) ^ Int.toNat 10)
    have h4 : Sm 8000 (c % ((10 : Int) ^ Int.toNat 60) ^ Int.toNat 10) := Sm.of h2 (Int.le_of_lt h3) (by unfold Sm; decide +kernel)
    have := lg h4 (by decide)
    omega
theorem pset0 {a b c x : Int} : pset [a, b, c] (0 : Int) x = .ok [x, b, c] := rfl
theorem pset2 {a b c x : Int} : pset [a, b, c] (2 : Int) x = .ok [a, b, x] := rfl
theorem pix0 {a b c : Int} : pix [a, b, c] (0 : Int) = .ok a := rfl
theorem pix1 {a b c : Int} : pix [a, b, c] (1 : Int) = .ok b := rfl
theorem pix2 {a b c : Int} : pix [a, b, c] (2 : Int) = .ok c := rfl
theorem draw_ok {p : List Int} {many : Int} (hp : Pur p) (h0 : 0 < many) (hm : Sm 8000 many) : ∃ d p', m_law_draw p many = .ok (d, p') ∧ 0 ≤ d ∧ d < many ∧ Pur p' := by
  obtain ⟨a, b, c, rfl⟩ := hp
  have ne : many ≠ 0 := by omega
  unfold m_law_draw
  rw [pix0, bind_ok]
  cases e : decide ((0 : Int) < a) with
  | true =>
    simp only [cond_true, pix0, bind_ok, pmod_ok h0, pdiv_ok h0 hm, pset0]
    exact ⟨_, _, rfl, Int.emod_nonneg _ ne, Int.emod_lt_of_pos _ h0, _, _, _, rfl⟩
  | false =>
    have sq : ∀ x m : Int, 0 < m → m < 2 ^ 62 → pmul (x % m) (x % m) = .ok (x % m * (x % m)) := fun x m h1 h2 => by
      have g1 := Int.emod_nonneg x (by omega : m ≠ 0)
      have g2 := Int.emod_lt_of_pos x h1
      have : Sm 8000 (x % m) := (Sm.of (n := 62) g1 (b := 2 ^ 62 - 1) (by omega) (by unfold Sm; decide)).up (by decide)
      exact pmul_ok this this
    simp only [cond_false, pix2, pix1, bind_ok, pset2]
    rw [sq _ _ (by decide) (by decide), bind_ok, sq _ _ (by decide) (by decide), bind_ok, pmod_ok h0, bind_ok]
    exact ⟨_, _, rfl, Int.emod_nonneg _ ne, Int.emod_lt_of_pos _ h0, _, _, _, rfl⟩
theorem purse_o {ns : List Int} {at_ : Int} : (m_law_purse ns at_).Ok Pur := by
  obtain ⟨p, e, h⟩ := purse_ok (ns := ns) (at_ := at_); exact ok_of e h
theorem draw_o {p : List Int} {many : Int} (hp : Pur p) (h0 : 0 < many) (hm : Sm 8000 many) : (m_law_draw p many).Ok fun r => 0 ≤ r.1 ∧ r.1 < many ∧ Pur r.2 := by
  obtain ⟨d, p', e, h1, h2, h3⟩ := draw_ok hp h0 hm
  exact ok_of e ⟨h1, h2, h3⟩
/-- many written or bounded -/
theorem draw_s {p : List Int} {many : Int} (hp : Pur p) (h0 : 0 < many) (hm : many ≤ 10 ^ 60) : (m_law_draw p many).Ok fun r => 0 ≤ r.1 ∧ r.1 < many ∧ Pur r.2 :=
  draw_o hp h0 (Sm.of (by omega) hm (by unfold Sm; decide +kernel))
/-! ### texts as lists of signs -/
abbrev mk (l : List Nat) : Str := ⟨l.toArray⟩
theorem signs_mk {l : List Nat} : signsL (mk l) = l := rfl
theorem mk_signs (z : Str) : mk (signsL z) = z := TL.mk_tl z
theorem s_ext {x y : Str} (h : signsL x = signsL y) : x = y := TL.ext_tl h
theorem s_len (z : Str) : z.length = (signsL z).length := TL.len_tl z
theorem mk_len {l : List Nat} : (mk l).length = l.length := s_len _
theorem mk_inj {l m : List Nat} : (mk l = mk m) ↔ l = m := ⟨fun h => by have := congrArg signsL h; exact this, fun h => by rw [h]⟩
theorem s_lit {z : String} : signsL (Str.ofString z) = z.toList.map Char.toNat := TL.tl_ofString z
theorem pcat_mk {a b : Str} (h : a.length + b.length ≤ 1000000) : pcat a b = .ok (mk (signsL a ++ signsL b)) := by
  unfold pcat
  rw [guard_ok (by rw [sz]; omega)]
  congr 1
  exact s_ext (TL.tl_append a b)
theorem prepS_mk {z : Str} {n : Int} (h0 : 0 ≤ n) (h : z.length * n.toNat ≤ 1000000) (h2 : n ≤ 1000000) : prepS z n = .ok (mk (List.replicate n.toNat (signsL z)).flatten) := by
  unfold prepS
  rw [guard_ok ⟨⟨by omega, by omega⟩, by rw [sz]; omega⟩]
  rfl
theorem pixS_mk {z : Str} {i : Nat} {c : Nat} (hl : z.length ≤ 1000000) (h : (signsL z)[i]? = some c) : pixS z (i : Int) = .ok c := by
  unfold pixS
  rw [if_pos (by rw [sz]; omega), pix_nat h]
theorem plenS_mk {z : Str} (hl : z.length ≤ 1000000) : plenS z = .ok ((signsL z).length : Int) := by
  unfold plenS
  rw [guard_ok (by rw [sz]; omega), s_len]
theorem pslS_mk {z : Str} {lo hi : Option Int} (hl : z.length ≤ 1000000) : pslS z lo hi = .ok (mk (cutD (signsL z) lo hi)) := by
  unfold pslS
  rw [guard_ok (by rw [sz]; omega)]
  rfl
theorem cutD_nat {α : Type} {l : List α} {i j : Nat} : cutD l (some (i : Int)) (some (j : Int)) = (l.drop i).take (j - i) := by
  unfold cutD
  rw [HT.sIx_nat, HT.sIx_nat]
  by_cases h : i ≤ l.length
  · rw [Nat.min_eq_left h]
    by_cases h2 : j ≤ l.length
    · rw [Nat.min_eq_left h2]
    · have e : min j l.length = l.length := Nat.min_eq_right (by omega)
      rw [e, List.take_of_length_le (by rw [List.length_drop]; omega), List.take_of_length_le (by rw [List.length_drop]; omega)]
  · have e : min i l.length = l.length := Nat.min_eq_right (by omega)
    rw [e, List.drop_length, List.drop_eq_nil_of_le (by omega)]; simp
theorem cutD_to {α : Type} {l : List α} {j : Nat} : cutD l none (some (j : Int)) = l.take j := by
  unfold cutD
  rw [HT.sIx_none, HT.sIx_nat, List.drop_zero, Nat.sub_zero]
  by_cases h2 : j ≤ l.length
  · rw [Nat.min_eq_left h2]
  · rw [Nat.min_eq_right (by omega), List.take_of_length_le (by omega), List.take_of_length_le (by omega)]
theorem cutD_from {α : Type} {l : List α} {i : Nat} : cutD l (some (i : Int)) none = l.drop i := by
  unfold cutD
  rw [HT.sIx_none, HT.sIx_nat]
  by_cases h : i ≤ l.length
  · rw [Nat.min_eq_left h, List.take_of_length_le (by rw [List.length_drop]; omega)]
  · have e : min i l.length = l.length := Nat.min_eq_right (by omega)
    rw [e, List.drop_length, List.drop_eq_nil_of_le (by omega)]; simp
/-- a dot becomes a nought -/
def fil (c : Nat) : Nat := if c = 46 then 48 else c
theorem repl1 : ∀ l : List Nat, StrLaws.replL [46] [48] l = l.map fil
  | [] => StrLaws.replL_nil
  | c :: r => by
    by_cases h : c = 46
    · subst h
      rw [StrLaws.replL_hit (by simp) (by rfl)]
      show [48] ++ StrLaws.replL [46] [48] r = _
      rw [repl1 r]; rfl
    · rw [StrLaws.replL_miss (by simpa using h), repl1 r]
      simp [fil, h]
theorem prepl_mk {z : Str} (h : z.length ≤ 1000000) : preplS z "." "0" = .ok (mk ((signsL z).map fil)) := by
  unfold preplS
  have e1 : (Str.ofString "0").length = 1 := by rfl
  rw [guard_ok (by rw [e1]; omega)]
  congr 1
  apply s_ext
  show (Txt.replace z "." "0").cps.toList = _
  rw [StrLaws.replace_list (by show 1 ≤ (Str.ofString ".").length; decide)]
  exact repl1 _
theorem joinL_nil : ∀ (ys : List (List Nat)), TL.joinL [] ys = ys.flatten
  | [] => rfl
  | [y] => by simp [TL.joinL]
  | y :: z :: r => by show y ++ ([] ++ TL.joinL [] (z :: r)) = _; rw [joinL_nil (z :: r)]; simp
theorem pjoin_mk {ys : List Str} (h : (ys.map (·.length)).sum ≤ 1000000) : pjoin "" ys = .ok (mk (ys.map signsL).flatten) := by
  unfold pjoin
  have e1 : (Str.ofString "").length = 0 := by rfl
  rw [guard_ok (by rw [e1]; omega)]
  congr 1
  apply s_ext
  rw [TL.join_eq]
  refine (TL.tl_join _ _).trans ?_
  exact joinL_nil _
/-! ### what steps do to rows of signs -/
def sg (c : Nat) : Bool := !(c == 46 || c == 48)
def okC (c : Nat) : Bool := c == 46 || c == 48 || (decide (97 ≤ c) && decide (c ≤ 122))
theorem dn_list : signsL (".0" : Str) = [46, 48] := by first | rfl | decide +kernel
theorem in_dn {c : Nat} : decide (c ∈ signsL (".0" : Str)) = !sg c := by
  rw [dn_list, Bool.eq_iff_iff]; simp [sg]
theorem cells_list : pcat (".0" : Str) ("abcdefghijklmnopqrstuvwxyz" : Str) = .ok (mk [46, 48, 97, 98, 99, 100, 101, 102, 103, 104, 105, 106, 107, 108, 109, 110, 111, 112, 113, 114, 115, 116, 117, 118, 119, 120, 121, 122]) := by
  rw [pcat_mk (by decide)]; rfl
theorem okC_in {c : Nat} : decide (c ∈ [46, 48, 97, 98, 99, 100, 101, 102, 103, 104, 105, 106, 107, 108, 109, 110, 111, 112, 113, 114, 115, 116, 117, 118, 119, 120, 121, 122]) = okC c := by
  rw [Bool.eq_iff_iff]
  simp only [okC, decide_eq_true_eq, List.mem_cons, List.not_mem_nil, or_false, Bool.or_eq_true, Bool.and_eq_true, beq_iff_eq]
  omega
theorem isE_filter {α : Type} {p : α → Bool} : ∀ {l : List α}, (l.filter p).isEmpty = l.all fun x => !p x
  | [] => rfl
  | x :: l => by
    rw [List.filter_cons, List.all_cons]
    cases h : p x
    · simp [isE_filter]
    · simp
theorem nE_filter {α : Type} {p : α → Bool} {l : List α} : (!(l.filter p).isEmpty) = l.any p := by
  rw [isE_filter, ← List.not_any_eq_all_not]; simp
theorem are_cells_val {z : Str} (hl : z.length ≤ 1000000) : m_are_cells z = .ok ((signsL z).all okC) := by
  unfold m_are_cells
  rw [compR_filter (fun c => !okC c) (by rw [← s_len, sz]; omega) (fun c _ => by rw [cells_list, bind_ok, signs_mk, okC_in]; cases okC c <;> rfl)]
  rw [bind_ok, andR_ok, cond_true, isE_filter]
  simp
abbrev CellS (l : List Nat) : Prop := l.all okC = true
theorem file_ok {l : List Nat} (hl : l.length ≤ 1000000) (h : CellS l) : m_File_make (mk l) = .ok (mk l) := by
  unfold m_File_make
  rw [are_cells_val (by rw [mk_len]; exact hl), signs_mk, h]; rfl
/-! ### what the laws draw: rows of cells, steps -/
section
variable {α β γ σ ρ : Type}
theorem foldIO {f : σ → Int → Res σ} {k : σ → Res β} {lo : Int} {n : Nat} {s : σ} {P : β → Prop} (I : Nat → σ → Prop) (h0 : I 0 s) (step : ∀ (i : Nat) s, i < n → I i s → (f s (lo + (i : Int))).Ok (I (i + 1))) (fin : ∀ s, I n s → (k s).Ok P) : ((foldR f (rangeL lo n) s).bind k).Ok P := by
  obtain ⟨s', e, h⟩ := foldR_rangeI I h0 (n := n) fun i s hi hs => (step i s hi hs).get
  rw [e]; exact fin s' h
theorem foldR_pre {f : σ → α → Res σ} (I : List α → σ → Prop) : ∀ {xs : List α} {pre : List α} {s : σ}, I pre s → (∀ p x q s, pre ++ xs = p ++ x :: q → I p s → ∃ s', f s x = .ok s' ∧ I (p ++ [x]) s') → ∃ s', foldR f xs s = .ok s' ∧ I (pre ++ xs) s'
  | [], pre, s, h, _ => ⟨s, rfl, by rw [List.append_nil]; exact h⟩
  | x :: xs, pre, s, h, hf => by
    obtain ⟨s1, e1, h1⟩ := hf pre x xs s rfl h
    obtain ⟨s2, e2, h2⟩ := foldR_pre I (xs := xs) h1 fun p y q s e hs => hf p y q s (by rw [← e]; simp) hs
    exact ⟨s2, by rw [foldR_cons, e1]; exact e2, by simpa using h2⟩
theorem foldPO {f : σ → α → Res σ} {k : σ → Res β} {xs : List α} {s : σ} {P : β → Prop} (I : List α → σ → Prop) (h0 : I [] s) (step : ∀ p x q s, xs = p ++ x :: q → I p s → (f s x).Ok (I (p ++ [x]))) (fin : ∀ s, I xs s → (k s).Ok P) : ((foldR f xs s).bind k).Ok P := by
  obtain ⟨s', e, h⟩ := foldR_pre I h0 (xs := xs) fun p x q s e hs => (step p x q s e hs).get
  rw [e]; exact fin s' (by simpa using h)
theorem mem_enumL {xs : List α} {x : Int × α} (h : x ∈ enumL xs) : ∃ (i : Nat) (c : α), x = ((i : Int), c) ∧ xs[i]? = some c := by
  unfold enumL at h
  obtain ⟨q, hq, rfl⟩ := List.mem_map.mp h
  exact ⟨q.2, q.1, rfl, List.mem_zipIdx_iff_getElem?.mp hq⟩
end
/-! rows of signs put together -/
theorem chS_sum {α : Type} (f : α → Nat) : ∀ xs : List α, ((xs.map fun x => chS (f x)).map (·.length)).sum = xs.length
  | [] => rfl
  | x :: xs => by rw [List.map_cons, List.map_cons, List.sum_cons, chS_sum f xs, List.length_cons]; show 1 + _ = _; omega
theorem chS_flat {α : Type} (f : α → Nat) : ∀ xs : List α, ((xs.map fun x => chS (f x)).map signsL).flatten = xs.map f
  | [] => rfl
  | x :: xs => by rw [List.map_cons, List.map_cons, List.flatten_cons, chS_flat f xs, List.map_cons]; rfl
theorem join_chS {α : Type} {f : α → Nat} {xs : List α} (h : xs.length ≤ 1000000) : pjoin ("" : Str) (xs.map fun x => chS (f x)) = .ok (mk (xs.map f)) := by
  rw [pjoin_mk (by rw [chS_sum]; exact h), chS_flat]
theorem enum_at {l : List Nat} {p q : List (Int × Nat)} {x : Int × Nat} (h : enumL l = p ++ x :: q) : p.length < l.length ∧ x = ((p.length : Int), l.getD p.length 0) := by
  have g : (enumL l)[p.length]? = some x := by rw [h]; simp
  unfold enumL at g
  rw [List.getElem?_map, List.getElem?_zipIdx] at g
  have hl : p.length < l.length := by
    by_cases c : p.length < l.length
    · exact c
    · rw [List.getElem?_eq_none (by omega)] at g; cases g
  rw [List.getElem?_eq_getElem hl] at g
  refine ⟨hl, ?_⟩
  simp at g
  rw [← g]
  simp [List.getD, hl]
/-! ### over Res with addresses given out: what a term must answer -/
section
variable {α β σ ρ : Type} {E E' : Er → Prop}
theorem bo {k : α → Res β} {P : α → Prop} {Q : β → Prop} (hk : ∀ a, P a → (k a).Out Q E) (hx : ∀ x, E' x → E x) : ∀ {m : Res α}, m.Out P E' → (m.bind k).Out Q E
  | .ok _, h => hk _ h
  | .err _, h => hx _ h
  | .bad, h => h
  | .all f, h => fun q => bo (m := f q) hk hx (h q)
theorem go_ {k : Er → Res α} {P Q : α → Prop} (hp : ∀ a, P a → Q a) (hk : ∀ x, E' x → (k x).Out Q E) : ∀ {m : Res α}, m.Out P E' → (m.grab k).Out Q E
  | .ok _, h => hp _ h
  | .err _, h => hk _ h
  | .bad, h => h
  | .all f, h => fun q => go_ (m := f q) hp hk (h q)
/-- a loop that is not left early -/
theorem foA {f : σ → α → Res (Ctl σ ρ)} (I : σ → Prop) : ∀ {xs : List α} {s : σ}, I s → (∀ s x, I s → x ∈ xs → (f s x).Out (fun c => ∃ s', c = .nx s' ∧ I s') E) → (forR f xs s).Out (fun c => ∃ s', c = .nx s' ∧ I s') E
  | [], s, h, _ => ⟨s, rfl, h⟩
  | x :: xs, s, h, hf => by
    rw [forR_cons]
    refine bo (fun c hc => ?_) (fun _ h => h) (hf s x h List.mem_cons_self)
    obtain ⟨s', rfl, h'⟩ := hc
    exact foA I h' fun s y hs hy => hf s y hs (List.mem_cons_of_mem _ hy)
theorem out_eq {m : Res α} {a : α} (e : m = .ok a) {P : α → Prop} (h : P a) : m.Out P E := by rw [e]; exact h
end
/-! ### values of any kind equal to themselves by shape or place -/
mutual
def selfA : Any → Bool
  | .lst xs => selfAL xs
  | .tup xs => selfAL xs
  | .dic => false
  | .obj _ _ => false
  | _ => true
def selfAL : List Any → Bool
  | [] => true
  | x :: xs => selfA x && selfAL xs
end
mutual
theorem eqA_self : ∀ {x : Any}, selfA x = true → eqA x x = true
  | .non, _ => by simp [eqA]
  | .bl _, _ => by simp [eqA]
  | .int _, _ => by simp [eqA]
  | .str _, _ => by simp [eqA]
  | .tag _ _, _ => by simp [eqA]
  | .cel _, _ => by simp [eqA]
  | .lst xs, h => by simp only [eqA]; exact eqAL_self (by simpa [selfA] using h)
  | .tup xs, h => by simp only [eqA]; exact eqAL_self (by simpa [selfA] using h)
  | .dic, h => by simp [selfA] at h
  | .obj _ _, h => by simp [selfA] at h
theorem eqAL_self : ∀ {xs : List Any}, selfAL xs = true → eqAL xs xs = true
  | [], _ => by simp [eqAL]
  | x :: xs, h => by
    simp only [selfAL, Bool.and_eq_true] at h
    simp only [eqAL, Bool.and_eq_true]
    exact ⟨eqA_self h.1, eqAL_self h.2⟩
end
/-- a check that a number is at least so much, at any value -/
def chkA : Any → Int → Bool
  | .int i, l => decide (l ≤ i)
  | _, _ => false
/-! ### Out by what is told -/
section
variable {α β σ ρ : Type} {E E' : Er → Prop}
theorem bO {m : Res α} {k : α → Res β} {P : α → Prop} {Q : β → Prop} (h : m.Ok P) (hk : ∀ a, P a → (k a).Out Q E) : (m.bind k).Out Q E := by
  obtain ⟨a, e, q⟩ := h.get; rw [e]; exact hk a q
theorem bE {m : Res α} {k : α → Res β} {a : α} {Q : β → Prop} (e : m = .ok a) (hk : (k a).Out Q E) : (m.bind k).Out Q E := by rw [e]; exact hk
theorem bG {c : Prop} [Decidable c] {x : α} {k : α → Res β} {Q : β → Prop} (hc : c) (h : (k x).Out Q E) : ((guard c x).bind k).Out Q E := bE (guard_ok hc) h
theorem oF {c : Bool} {a b : Res α} {P : α → Prop} (e : c = false) (h : b.Out P E) : (cond c a b).Out P E := by rw [e]; exact h
theorem oT {c : Bool} {a b : Res α} {P : α → Prop} (e : c = true) (h : a.Out P E) : (cond c a b).Out P E := by rw [e]; exact h
theorem oB {c : Bool} {a b : Res α} {P : α → Prop} (h1 : c = true → a.Out P E) (h2 : c = false → b.Out P E) : (cond c a b).Out P E := by
  cases c with
  | true => exact h1 rfl
  | false => exact h2 rfl
theorem oNF {p : Prop} [Decidable p] {a b : Res α} {P : α → Prop} (hp : p) (h : b.Out P E) : (cond (!decide p) a b).Out P E := oF (by rw [decide_eq_true hp]; rfl) h
/-- a loop that is not left early, and what comes behind it -/
theorem foF {f : σ → α → Res (Ctl σ ρ)} {k : σ → Res β} {r : ρ → Res β} {xs : List α} {s : σ} {P : β → Prop} (I : σ → Prop) (h0 : I s) (step : ∀ s x, I s → x ∈ xs → (f s x).Out (fun c => ∃ s', c = .nx s' ∧ I s') E) (fin : ∀ s, I s → (k s).Out P E) : ((forR f xs s).bind (Ctl.fin k r)).Out P E := by
  refine bo (P := fun c => ∃ s', c = .nx s' ∧ I s') (fun c hc => ?_) (fun _ h => h) (foA I h0 step)
  obtain ⟨s', rfl, h⟩ := hc
  exact fin s' h
theorem nxA {s : σ} {I : σ → Prop} (h : I s) : (Res.ok (Ctl.nx s : Ctl σ ρ)).Out (fun c => ∃ s', c = .nx s' ∧ I s') E := ⟨s, rfl, h⟩
/-- a fold -/
theorem foldA {f : σ → α → Res σ} (I : σ → Prop) : ∀ {xs : List α} {s : σ}, I s → (∀ s x, I s → x ∈ xs → (f s x).Out I E) → (foldR f xs s).Out I E
  | [], s, h, _ => h
  | x :: xs, s, h, hf => by
    rw [foldR_cons]
    exact bo (fun s' h' => foldA I h' fun s y hs hy => hf s y hs (List.mem_cons_of_mem _ hy)) (fun _ h => h) (hf s x h List.mem_cons_self)
end
/-- values that a list compares as it finds them -/
def SV (v : Any) : Prop := selfA v = true ∧ dpA v ≤ 59
theorem eq_self {v : Any} (h : SV v) : peqA [v] [v] = .ok true :=
  guard_ok ⟨eqAL_self (by simp [selfAL, h.1]), by have := h.2; simp [dpAL]; omega⟩
theorem ne_self {v : Any} (h : SV v) : ((peqA [v] [v]).bind fun b => Res.ok !b) = .ok false := by rw [eq_self h]; rfl
theorem eq_self2 {s : Str} {v : Any} (h : SV v) : peqA [.str s, v] [.str s, v] = .ok true :=
  guard_ok ⟨eqAL_self (by simp [selfAL, selfA, h.1]), by have := h.2; simp [dpAL, dpA]; omega⟩
theorem ne_self2 {s : Str} {v : Any} (h : SV v) : ((peqA [.str s, v] [.str s, v]).bind fun b => Res.ok !b) = .ok false := by rw [eq_self2 h]; rfl
theorem sv_non : SV .non := ⟨by simp [selfA], by simp [dpA]⟩
theorem sv_int {i : Int} : SV (.int i) := ⟨by simp [selfA], by simp [dpA]⟩
theorem sv_bl {b : Bool} : SV (.bl b) := ⟨by simp [selfA], by simp [dpA]⟩
theorem sv_str {s : Str} : SV (.str s) := ⟨by simp [selfA], by simp [dpA]⟩
theorem sv_tag {q : Addr} {x : Any} : SV (.tag q x) := ⟨by simp [selfA], by simp [dpA]⟩
theorem selfAL_map {α : Type} {f : α → Any} (h : ∀ x, selfA (f x) = true) : ∀ {xs : List α}, selfAL (xs.map f) = true
  | [] => by simp [selfAL]
  | x :: xs => by simp only [List.map_cons, selfAL, Bool.and_eq_true]; exact ⟨h x, selfAL_map h⟩
theorem dpAL_map {α : Type} {f : α → Any} {n : Nat} (h : ∀ x, dpA (f x) ≤ n) : ∀ {xs : List α}, dpAL (xs.map f) ≤ n
  | [] => by simp [dpAL]
  | x :: xs => by have := h x; have := dpAL_map h (xs := xs); simp only [List.map_cons, dpAL]; omega
theorem sv_chars {cs : List Nat} : SV (.lst (cs.map fun c => Any.str (chS c))) :=
  ⟨by simp only [selfA]; exact selfAL_map fun _ => by simp [selfA], by have := dpAL_map (f := fun c => Any.str (chS c)) (n := 1) (fun _ => by simp [dpA]) (xs := cs); simp only [dpA]; omega⟩
theorem eq_none : ((peqA [.str ("none" : Str)] [.str ("none" : Str)]).bind fun b => Res.ok !b) = .ok false := ne_self sv_str
theorem law_steps_o {p sizes : List Int} {most : Int} (hp : Pur p) (h0 : 0 ≤ most) (hm : most ≤ 1000) (hs : 0 < sizes.length) (hs2 : sizes.length ≤ 1000) :
    (m_law_steps p sizes most).Ok fun r => (r.1.length : Int) ≤ most ∧ (∀ x ∈ r.1, x.2 ∈ sizes) ∧ Pur r.2 := by
  unfold m_law_steps
  refine bi (draw_s hp (by omega) (by omega)) fun z2 ⟨b1, b2, hp⟩ => ?_
  refine bg (small62_of b1 (by omega)) ?_
  refine foldIO (fun i s => s.1.length ≤ i ∧ (∀ x ∈ s.1, x.2 ∈ sizes) ∧ Pur s.2) ⟨by simp, (fun x hx => by simp at hx), hp⟩ ?_ ?_
  · rintro i s hi ⟨hl, hx, hp⟩
    refine bi (draw_s hp (by decide) (by decide +kernel)) fun z7 ⟨a1, a2, hp⟩ => ?_
    refine bi (pix_of a1 a2 (P := fun _ => True) (fun _ _ => trivial)) fun z8 _ => ?_
    refine bi (draw_s hp (by omega) (by omega)) fun z10 ⟨c1, c2, hp⟩ => ?_
    refine bi (pix_of c1 c2 (P := fun x => x ∈ sizes) (fun _ h => h)) fun z11 hz => ?_
    have e : papp s.1 (z8, z11) = .ok (s.1 ++ [(z8, z11)]) := guard_ok (by rw [sz]; omega)
    refine be e ?_
    refine ⟨by simp; omega, ?_, hp⟩
    intro x hxx
    rcases List.mem_append.mp hxx with h | h
    · exact hx x h
    · rw [List.mem_singleton.mp h]; exact hz
  · rintro s ⟨hl, hx, hp⟩
    exact ⟨by show (s.1.length : Int) ≤ most; omega, hx, hp⟩
def stepOf (x : Str × Int) : StepT := if x.1 = ("full" : Str) then .full else if x.1 = ("keep" : Str) then .keep x.2 else if x.1 = ("lean" : Str) then .lean x.2 else .dig x.2
theorem is_whole_val {n : Int} : m_is_whole n = .ok true := rfl
theorem least_val {n l : Int} (h : l ≤ n) : m_check_least n l = .ok () := by
  unfold m_check_least
  rw [is_whole_val, bind_ok, cond_true, decide_eq_false (by omega)]; rfl
theorem law_step_val {x : Str × Int} (h : 1 ≤ x.2) : m_law_step x = .ok (stepOf x) := by
  unfold m_law_step stepOf m_Keep_make m_Lean_make m_Dig_make
  rw [least_val h]
  by_cases h1 : x.1 = ("full" : Str)
  · rw [if_pos h1, decide_eq_true h1]; rfl
  · rw [if_neg h1, decide_eq_false h1, cond_false]
    by_cases h2 : x.1 = ("keep" : Str)
    · rw [if_pos h2, decide_eq_true h2]; rfl
    · rw [if_neg h2, decide_eq_false h2, cond_false]
      by_cases h3 : x.1 = ("lean" : Str)
      · rw [if_pos h3, decide_eq_true h3]; rfl
      · rw [if_neg h3, decide_eq_false h3]; rfl
theorem script_val {xs : List StepT} (h : xs.length ≤ 1000000) : m_Script_make (some xs) = .ok xs := by
  show (m_are_steps xs).bind _ = _
  unfold m_are_steps
  rw [compR_none (by rw [sz]; omega) (fun _ _ => rfl)]
  show guard (true = true) xs = .ok xs
  exact guard_ok rfl
theorem law_script_val {xs : List (Str × Int)} (hl : xs.length ≤ 1000) (h : ∀ x ∈ xs, 1 ≤ x.2) : m_law_script xs = .ok (xs.map stepOf) := by
  unfold m_law_script
  rw [compR_map stepOf (by rw [sz]; omega) (fun x hx => by rw [law_step_val (h x hx)]; rfl), bind_ok, script_val (by rw [List.length_map]; omega)]; rfl
/-! ### periods -/
/-- the size divides D -/
def Dv (D : Nat) : StepT → Prop
  | .full => True
  | .keep n => ∃ m : Nat, n = m ∧ 1 ≤ m ∧ m ∣ D
  | .lean n => ∃ m : Nat, n = m ∧ 1 ≤ m ∧ m ∣ D
  | .dig n => ∃ m : Nat, n = m ∧ 1 ≤ m ∧ m ∣ D
def szOf : StepT → Option Int
  | .full => none
  | .keep n => some n
  | .lean n => some n
  | .dig n => some n
theorem lcm_is {p m : Nat} (hp : 1 ≤ p) : p / Nat.gcd p m * m = Nat.lcm p m := by
  have hg : 0 < Nat.gcd p m := Nat.gcd_pos_of_pos_left _ (by omega)
  have h1 : Nat.gcd p m * Nat.lcm p m = p * m := Nat.gcd_mul_lcm p m
  have h2 : Nat.gcd p m * (p / Nat.gcd p m) = p := Nat.mul_div_cancel' (Nat.gcd_dvd_left p m)
  refine Nat.eq_of_mul_eq_mul_left hg ?_
  rw [h1, ← Nat.mul_assoc, h2]
theorem sm1000 {i : Int} (h0 : 0 ≤ i) (h : i ≤ 1000) : Sm 8000 i := Sm.of h0 h (by unfold Sm; decide +kernel)
theorem multiple_o {D : Nat} (hD : D ≤ 1000 ∧ 1 ≤ D) {ns : List Int} (hs : ∀ x ∈ ns, ∃ m : Nat, x = m ∧ 1 ≤ m ∧ m ∣ D) : (m_multiple_of ns).Ok fun r => ∃ p : Nat, r = p ∧ 1 ≤ p ∧ p ∣ D ∧ ∀ x ∈ ns, ∃ m : Nat, x = m ∧ 1 ≤ m ∧ m ∣ p := by
  unfold m_multiple_of
  refine foldPO (fun pre (s : Int) => ∃ p : Nat, s = p ∧ 1 ≤ p ∧ p ∣ D ∧ ∀ x ∈ pre, ∃ m : Nat, x = m ∧ 1 ≤ m ∧ m ∣ p) ⟨1, rfl, Nat.le_refl _, Nat.one_dvd _, fun x hx => by simp at hx⟩ ?_ fun s h => h
  rintro pre x q s he ⟨p, rfl, p1, p2, p3⟩
  obtain ⟨m, rfl, m1, m2⟩ := hs x (by rw [he]; simp)
  have pD := Nat.le_of_dvd (by omega) p2
  have mD := Nat.le_of_dvd (by omega) m2
  have hg : 0 < Nat.gcd p m := Nat.gcd_pos_of_pos_left _ (by omega)
  have hgl : Nat.gcd p m ≤ p := Nat.gcd_le_left _ (by omega)
  refine be (a := ((Nat.gcd p m : Nat) : Int)) (guard_ok ⟨by omega, by omega⟩) ?_
  refine be (pdiv_ok (by omega) (sm1000 (by omega) (by omega))) ?_
  have hq : p / Nat.gcd p m ≤ p := Nat.div_le_self _ _
  have e : ((p : Int) / ((Nat.gcd p m : Nat) : Int)) = ((p / Nat.gcd p m : Nat) : Int) := by rw [Int.natCast_ediv]
  rw [e]
  refine be (pmul_ok (sm1000 (Int.natCast_nonneg _) (Int.ofNat_le.mpr (Nat.le_trans hq (Nat.le_trans pD hD.1)))) (sm1000 (by omega) (by omega))) ?_
  have l1 : 1 ≤ Nat.lcm p m := Nat.lcm_pos (by omega) (by omega)
  refine ⟨Nat.lcm p m, by rw [← lcm_is p1, Int.natCast_mul], l1, Nat.lcm_dvd p2 m2, fun y hy => ?_⟩
  rcases List.mem_append.mp hy with h | h
  · obtain ⟨k, k1, k2, k3⟩ := p3 y h
    exact ⟨k, k1, k2, Nat.dvd_trans k3 (Nat.dvd_lcm_left p m)⟩
  · rw [List.mem_singleton.mp h]
    exact ⟨m, rfl, m1, Nat.dvd_lcm_right p m⟩
theorem period_o {D : Nat} (hD : D ≤ 1000 ∧ 1 ≤ D) {xs : List StepT} (hl : xs.length ≤ 1000) (hs : ∀ s ∈ xs, Dv D s) : ∃ p : Nat, m_Script_period xs = .ok (p : Int) ∧ 1 ≤ p ∧ p ∣ D ∧ ∀ s ∈ xs, Dv p s := by
  have hc : compR (β := Int) (fun x1 => cond (is_Full x1) (Res.ok none) ((m_Step_size x1).ne.bind fun z2 => Res.ok (some z2))) xs = .ok (xs.filterMap szOf) := compR_fm szOf (by rw [sz]; omega) (fun x _ => by cases x <;> rfl)
  have hm : ∀ x ∈ xs.filterMap szOf, ∃ m : Nat, x = m ∧ 1 ≤ m ∧ m ∣ D := fun x hx => by
    obtain ⟨s, h1, h2⟩ := List.mem_filterMap.mp hx
    have := hs s h1
    cases s with
    | full => cases h2
    | keep n => cases h2; exact this
    | lean n => cases h2; exact this
    | dig n => cases h2; exact this
  obtain ⟨r, e, p, rfl, p1, p2, p3⟩ := (multiple_o hD hm).get
  refine ⟨p, ?_, p1, p2, fun s h => ?_⟩
  · unfold m_Script_period
    rw [hc, bind_ok, e]; rfl
  · cases s with
    | full => trivial
    | keep n => exact p3 n (List.mem_filterMap.mpr ⟨_, h, rfl⟩)
    | lean n => exact p3 n (List.mem_filterMap.mpr ⟨_, h, rfl⟩)
    | dig n => exact p3 n (List.mem_filterMap.mpr ⟨_, h, rfl⟩)
/-! ### the tables behind scripts, all of them -/
abbrev Row := Int × Int
abbrev Tab := List (List Row)
def isIn (ts : List Tab) : Res Tab → Bool
  | .ok t => ts.elem t
  | _ => false
def clB (ts : List Tab) (ss : List StepT) : Bool := ts.all fun t => ss.all fun s => isIn ts (m_behind_step s t)
def rows0 (n : Nat) : Res Tab := compR (β := (List (Int × Int))) (fun x2 => (pshl (1 : Int) x2).bind fun z3 => Res.ok (some ([(z3, (0 : Int))] : List (Int × Int)))) (rangeL 0 n)
def inB (ts : List Tab) (n : Nat) : Bool := isIn ts (rows0 n)
def moved (z1 : Tab) (a_length : Int) : Res Tab := (guard (rng3ok (0 : Int) a_length (z1.length : Int)) ()).bind fun _ => (foldR (fun (s2 : (List (List (Int × Int)))) x3 => (compR (β := (List (Int × Int))) (fun x6 => (compR (β := (Int × Int)) (fun x7 => (pshl x7.1 x3).bind fun z8 => (pshl x7.2 x3).bind fun z9 => Res.ok (some (z8, z9))) x6).bind fun l10 => Res.ok (some l10)) z1).bind fun l11 => (pcatL s2 l11).bind fun z12 => Res.ok z12) (rangeC (0 : Int) (z1.length : Int) (Int.toNat ((a_length - (0 : Int) + (z1.length : Int) - 1) / (z1.length : Int)))) ([] : List (List (Int × Int)))).bind fun s2 => Res.ok s2
def goodB (n : Nat) (t : Tab) : Bool := decide (t.length = n) && t.all fun rows => rows.all fun r => decide (0 ≤ r.1) && decide (0 ≤ r.2)
def moB (ts : List Tab) (n : Nat) : Bool := ts.all fun t => match moved t n with
  | .ok m => goodB n m
  | _ => false
def tabA1 : List Tab := [[[(1, 0)]], [[(0, 0)]], [[(1, 1)]]]
def stpA1 : List StepT := [.full, .keep 1, .dig 1, .lean 1]
theorem cloA1 : clB tabA1 stpA1 = true := by decide +kernel
theorem iniA1 : inB tabA1 1 = true := by decide +kernel
theorem movA1_1 : moB tabA1 1 = true := by decide +kernel
theorem movA1_2 : moB tabA1 2 = true := by decide +kernel
theorem movA1_3 : moB tabA1 3 = true := by decide +kernel
theorem movA1_6 : moB tabA1 6 = true := by decide +kernel
def tabA2 : List Tab := [[[(1, 0)], [(2, 0)]], [[(0, 0)], [(0, 0)]], [[(1, 0), (2, 0)], [(1, 0), (2, 0)]], [[(1, 1)], [(2, 2)]], [[(1, 1), (3, 2)], [(2, 2), (3, 1)]], [[(1, 1), (2, 2)], [(1, 1), (2, 2)]]]
def stpA2 : List StepT := [.full, .keep 1, .keep 2, .dig 1, .dig 2, .lean 1, .lean 2]
theorem cloA2 : clB tabA2 stpA2 = true := by decide +kernel
theorem iniA2 : inB tabA2 2 = true := by decide +kernel
theorem movA2_2 : moB tabA2 2 = true := by decide +kernel
theorem movA2_6 : moB tabA2 6 = true := by decide +kernel
def tabA3 : List Tab := [[[(1, 0)], [(2, 0)], [(4, 0)]], [[(0, 0)], [(0, 0)], [(0, 0)]], [[(1, 0), (2, 0), (4, 0)], [(1, 0), (2, 0), (4, 0)], [(1, 0), (2, 0), (4, 0)]], [[(1, 1)], [(2, 2)], [(4, 4)]], [[(1, 1), (3, 2), (5, 4)], [(2, 2), (3, 1), (6, 4)], [(4, 4), (5, 1), (6, 2)]], [[(1, 1), (2, 2), (4, 4)], [(1, 1), (2, 2), (4, 4)], [(1, 1), (2, 2), (4, 4)]]]
def stpA3 : List StepT := [.full, .keep 1, .keep 3, .dig 1, .dig 3, .lean 1, .lean 3]
theorem cloA3 : clB tabA3 stpA3 = true := by decide +kernel
theorem iniA3 : inB tabA3 3 = true := by decide +kernel
theorem movA3_3 : moB tabA3 3 = true := by decide +kernel
theorem movA3_6 : moB tabA3 6 = true := by decide +kernel
def tabA6 : List Tab := [[[(1, 0)], [(2, 0)], [(4, 0)], [(8, 0)], [(16, 0)], [(32, 0)]], [[(0, 0)], [(0, 0)], [(0, 0)], [(0, 0)], [(0, 0)], [(0, 0)]], [[(1, 0), (2, 0)], [(1, 0), (2, 0)], [(4, 0), (8, 0)], [(4, 0), (8, 0)], [(16, 0), (32, 0)], [(16, 0), (32, 0)]], [[(1, 0), (2, 0), (4, 0)], [(1, 0), (2, 0), (4, 0)], [(1, 0), (2, 0), (4, 0)], [(8, 0), (16, 0), (32, 0)], [(8, 0), (16, 0), (32, 0)], [(8, 0), (16, 0), (32, 0)]], [[(1, 1)], [(2, 2)], [(4, 4)], [(8, 8)], [(16, 16)], [(32, 32)]], [[(1, 1), (3, 2)], [(2, 2), (3, 1)], [(4, 4), (12, 8)], [(8, 8), (12, 4)], [(16, 16), (48, 32)], [(32, 32), (48, 16)]], [[(1, 1), (3, 2), (5, 4)], [(2, 2), (3, 1), (6, 4)], [(4, 4), (5, 1), (6, 2)], [(8, 8), (24, 16), (40, 32)], [(16, 16), (24, 8), (48, 32)], [(32, 32), (40, 8), (48, 16)]], [[(1, 1), (2, 2)], [(1, 1), (2, 2)], [(4, 4), (8, 8)], [(4, 4), (8, 8)], [(16, 16), (32, 32)], [(16, 16), (32, 32)]], [[(1, 1), (2, 2), (4, 4)], [(1, 1), (2, 2), (4, 4)], [(1, 1), (2, 2), (4, 4)], [(8, 8), (16, 16), (32, 32)], [(8, 8), (16, 16), (32, 32)], [(8, 8), (16, 16), (32, 32)]], [[(1, 0), (2, 0), (4, 0), (8, 0)], [(1, 0), (2, 0), (4, 0), (8, 0)], [(1, 0), (2, 0), (4, 0), (8, 0)], [(4, 0), (8, 0), (16, 0), (32, 0)], [(4, 0), (8, 0), (16, 0), (32, 0)], [(4, 0), (8, 0), (16, 0), (32, 0)]], [[(1, 1), (2, 2), (5, 4), (6, 4)], [(1, 1), (2, 2), (5, 4), (6, 4)], [(4, 4), (5, 1), (6, 2), (9, 1), (10, 2)], [(8, 8), (20, 16), (24, 16), (36, 32), (40, 32)], [(16, 16), (24, 8), (32, 32), (40, 8)], [(16, 16), (24, 8), (32, 32), (40, 8)]], [[(1, 0), (2, 0), (4, 0)], [(1, 0), (2, 0), (4, 0)], [(1, 0), (2, 0), (4, 0), (8, 0), (16, 0), (32, 0)], [(1, 0), (2, 0), (4, 0), (8, 0), (16, 0), (32, 0)], [(8, 0), (16, 0), (32, 0)], [(8, 0), (16, 0), (32, 0)]], [[(1, 1), (2, 2)], [(1, 1), (2, 2)], [(4, 4), (9, 8), (10, 8), (12, 8)], [(8, 8), (12, 4), (20, 4), (36, 4)], [(16, 16), (32, 32)], [(16, 16), (32, 32)]], [[(1, 1), (2, 2), (4, 4), (12, 8)], [(1, 1), (2, 2), (4, 4), (12, 8)], [(1, 1), (2, 2), (4, 4), (12, 8)], [(8, 8), (12, 4), (16, 16), (32, 32)], [(8, 8), (12, 4), (16, 16), (32, 32)], [(8, 8), (12, 4), (16, 16), (32, 32)]], [[(1, 1), (3, 2)], [(2, 2), (3, 1)], [(4, 4), (13, 9), (14, 10)], [(8, 8), (28, 20), (44, 36)], [(16, 16), (48, 32)], [(32, 32), (48, 16)]], [[(1, 1), (2, 2), (5, 4), (6, 4)], [(1, 1), (2, 2), (5, 4), (6, 4)], [(4, 4), (5, 1), (6, 2), (8, 8), (24, 16), (40, 32)], [(4, 4), (5, 1), (6, 2), (8, 8), (24, 16), (40, 32)], [(16, 16), (24, 8), (32, 32), (40, 8)], [(16, 16), (24, 8), (32, 32), (40, 8)]], [[(1, 1), (2, 2), (4, 4), (8, 8)], [(1, 1), (2, 2), (4, 4), (8, 8)], [(1, 1), (2, 2), (4, 4), (8, 8)], [(4, 4), (8, 8), (16, 16), (32, 32)], [(4, 4), (8, 8), (16, 16), (32, 32)], [(4, 4), (8, 8), (16, 16), (32, 32)]], [[(1, 1), (2, 2)], [(1, 1), (2, 2)], [(4, 4), (9, 9), (10, 10)], [(8, 8), (20, 20), (36, 36)], [(16, 16), (32, 32)], [(16, 16), (32, 32)]], [[(1, 1), (2, 2), (4, 4)], [(1, 1), (2, 2), (4, 4)], [(1, 1), (2, 2), (4, 4), (8, 8), (16, 16), (32, 32)], [(1, 1), (2, 2), (4, 4), (8, 8), (16, 16), (32, 32)], [(8, 8), (16, 16), (32, 32)], [(8, 8), (16, 16), (32, 32)]], [[(1, 0), (2, 0), (4, 0), (8, 0)], [(1, 0), (2, 0), (4, 0), (8, 0)], [(1, 0), (2, 0), (4, 0), (8, 0), (16, 0), (32, 0)], [(1, 0), (2, 0), (4, 0), (8, 0), (16, 0), (32, 0)], [(4, 0), (8, 0), (16, 0), (32, 0)], [(4, 0), (8, 0), (16, 0), (32, 0)]], [[(1, 1), (2, 2), (5, 4), (6, 4)], [(1, 1), (2, 2), (5, 4), (6, 4)], [(4, 4), (5, 1), (6, 2), (8, 8), (9, 1), (10, 2), (20, 16), (24, 16), (36, 32), (40, 32)], [(4, 4), (5, 1), (6, 2), (8, 8), (9, 1), (10, 2), (20, 16), (24, 16), (36, 32), (40, 32)], [(16, 16), (24, 8), (32, 32), (40, 8)], [(16, 16), (24, 8), (32, 32), (40, 8)]], [[(1, 0), (2, 0), (4, 0), (8, 0), (16, 0), (32, 0)], [(1, 0), (2, 0), (4, 0), (8, 0), (16, 0), (32, 0)], [(1, 0), (2, 0), (4, 0), (8, 0), (16, 0), (32, 0)], [(1, 0), (2, 0), (4, 0), (8, 0), (16, 0), (32, 0)], [(1, 0), (2, 0), (4, 0), (8, 0), (16, 0), (32, 0)], [(1, 0), (2, 0), (4, 0), (8, 0), (16, 0), (32, 0)]], [[(1, 1), (2, 2), (4, 4), (9, 8), (10, 8), (12, 8)], [(1, 1), (2, 2), (4, 4), (9, 8), (10, 8), (12, 8)], [(1, 1), (2, 2), (4, 4), (9, 8), (10, 8), (12, 8)], [(8, 8), (12, 4), (16, 16), (20, 4), (32, 32), (36, 4)], [(8, 8), (12, 4), (16, 16), (20, 4), (32, 32), (36, 4)], [(8, 8), (12, 4), (16, 16), (20, 4), (32, 32), (36, 4)]], [[(1, 1), (2, 2), (4, 4), (12, 8)], [(1, 1), (2, 2), (4, 4), (12, 8)], [(1, 1), (2, 2), (4, 4), (8, 8), (16, 16), (32, 32)], [(1, 1), (2, 2), (4, 4), (8, 8), (16, 16), (32, 32)], [(8, 8), (12, 4), (16, 16), (32, 32)], [(8, 8), (12, 4), (16, 16), (32, 32)]], [[(1, 1), (2, 2)], [(1, 1), (2, 2)], [(4, 4), (9, 9), (10, 10), (12, 8)], [(8, 8), (12, 4), (20, 20), (36, 36)], [(16, 16), (32, 32)], [(16, 16), (32, 32)]], [[(1, 1), (2, 2), (4, 4), (8, 8), (24, 16), (40, 32)], [(1, 1), (2, 2), (4, 4), (8, 8), (24, 16), (40, 32)], [(1, 1), (2, 2), (4, 4), (8, 8), (24, 16), (40, 32)], [(4, 4), (5, 1), (6, 2), (8, 8), (16, 16), (32, 32)], [(4, 4), (5, 1), (6, 2), (8, 8), (16, 16), (32, 32)], [(4, 4), (5, 1), (6, 2), (8, 8), (16, 16), (32, 32)]], [[(1, 1), (2, 2), (5, 4), (6, 4)], [(1, 1), (2, 2), (5, 4), (6, 4)], [(4, 4), (5, 1), (6, 2), (9, 9), (10, 10), (25, 17), (26, 18), (41, 33), (42, 34)], [(8, 8), (20, 20), (21, 17), (22, 18), (24, 16), (36, 36), (37, 33), (38, 34), (40, 32)], [(16, 16), (24, 8), (32, 32), (40, 8)], [(16, 16), (24, 8), (32, 32), (40, 8)]], [[(1, 1), (2, 2), (4, 4), (8, 8)], [(1, 1), (2, 2), (4, 4), (8, 8)], [(1, 1), (2, 2), (4, 4), (8, 8), (16, 16), (32, 32)], [(1, 1), (2, 2), (4, 4), (8, 8), (16, 16), (32, 32)], [(4, 4), (8, 8), (16, 16), (32, 32)], [(4, 4), (8, 8), (16, 16), (32, 32)]], [[(1, 1), (2, 2), (4, 4), (8, 8), (16, 16), (32, 32)], [(1, 1), (2, 2), (4, 4), (8, 8), (16, 16), (32, 32)], [(1, 1), (2, 2), (4, 4), (8, 8), (16, 16), (32, 32)], [(1, 1), (2, 2), (4, 4), (8, 8), (16, 16), (32, 32)], [(1, 1), (2, 2), (4, 4), (8, 8), (16, 16), (32, 32)], [(1, 1), (2, 2), (4, 4), (8, 8), (16, 16), (32, 32)]], [[(1, 1), (2, 2), (4, 4), (8, 8), (20, 16), (24, 16), (36, 32), (40, 32)], [(1, 1), (2, 2), (4, 4), (8, 8), (20, 16), (24, 16), (36, 32), (40, 32)], [(1, 1), (2, 2), (4, 4), (8, 8), (20, 16), (24, 16), (36, 32), (40, 32)], [(4, 4), (5, 1), (6, 2), (8, 8), (9, 1), (10, 2), (16, 16), (32, 32)], [(4, 4), (5, 1), (6, 2), (8, 8), (9, 1), (10, 2), (16, 16), (32, 32)], [(4, 4), (5, 1), (6, 2), (8, 8), (9, 1), (10, 2), (16, 16), (32, 32)]], [[(1, 1), (2, 2), (4, 4), (9, 8), (10, 8), (12, 8)], [(1, 1), (2, 2), (4, 4), (9, 8), (10, 8), (12, 8)], [(1, 1), (2, 2), (4, 4), (8, 8), (16, 16), (32, 32)], [(1, 1), (2, 2), (4, 4), (8, 8), (16, 16), (32, 32)], [(8, 8), (12, 4), (16, 16), (20, 4), (32, 32), (36, 4)], [(8, 8), (12, 4), (16, 16), (20, 4), (32, 32), (36, 4)]], [[(1, 1), (2, 2), (4, 4), (8, 8), (24, 16), (40, 32)], [(1, 1), (2, 2), (4, 4), (8, 8), (24, 16), (40, 32)], [(1, 1), (2, 2), (4, 4), (8, 8), (16, 16), (32, 32)], [(1, 1), (2, 2), (4, 4), (8, 8), (16, 16), (32, 32)], [(4, 4), (5, 1), (6, 2), (8, 8), (16, 16), (32, 32)], [(4, 4), (5, 1), (6, 2), (8, 8), (16, 16), (32, 32)]], [[(1, 1), (2, 2), (4, 4), (8, 8), (20, 16), (24, 16), (36, 32), (40, 32)], [(1, 1), (2, 2), (4, 4), (8, 8), (20, 16), (24, 16), (36, 32), (40, 32)], [(1, 1), (2, 2), (4, 4), (8, 8), (16, 16), (32, 32)], [(1, 1), (2, 2), (4, 4), (8, 8), (16, 16), (32, 32)], [(4, 4), (5, 1), (6, 2), (8, 8), (9, 1), (10, 2), (16, 16), (32, 32)], [(4, 4), (5, 1), (6, 2), (8, 8), (9, 1), (10, 2), (16, 16), (32, 32)]]]
def stpA6 : List StepT := [.full, .keep 1, .keep 2, .keep 3, .dig 1, .dig 2, .dig 3, .lean 1, .lean 2, .lean 3]
theorem cloA6 : clB tabA6 stpA6 = true := by decide +kernel
theorem iniA6 : inB tabA6 6 = true := by decide +kernel
theorem movA6_6 : moB tabA6 6 = true := by decide +kernel
/-! ### k24 -/
section
variable {α β σ ρ : Type}
abbrev Tr {α : Type} : α → Prop := fun _ => True
theorem forT1 {f : σ → α → Res (Ctl σ ρ)} : ∀ {xs : List α} {s : σ}, (∀ s x, x ∈ xs → (f s x).Ok Tr) → (forR f xs s).Ok Tr
  | [], s, _ => trivial
  | x :: xs, s, h => by
    obtain ⟨c, e, _⟩ := (h s x List.mem_cons_self).get
    rw [forR_cons, e, bind_ok]
    cases c with
    | nx s' => exact forT1 fun s y hy => h s y (List.mem_cons_of_mem _ hy)
    | bk s' => trivial
    | rt r => trivial
theorem finT {c : Ctl σ ρ} {k : σ → Res β} {r : ρ → Res β} (hk : ∀ s, (k s).Ok Tr) (hr : ∀ x, (r x).Ok Tr) : (Ctl.fin k r c).Ok Tr := by
  cases c with
  | nx s => exact hk s
  | bk s => exact hk s
  | rt x => exact hr x
theorem compL_T {f : α → Res (Option β)} {P : β → Prop} : ∀ {xs : List α}, (∀ x ∈ xs, (f x).Ok fun o => ∀ y, o = some y → P y) → (compL f xs).Ok fun ys => ∀ y ∈ ys, P y
  | [], _ => fun y hy => by simp at hy
  | x :: xs, h => by
    show ((f x).bind _).Ok _
    refine bi (h x List.mem_cons_self) fun o ho => ?_
    refine bi (compL_T fun y hy => h y (List.mem_cons_of_mem _ hy)) fun r hr => ?_
    intro y hy
    rcases List.mem_append.mp hy with g | g
    · exact ho y (by simpa using g)
    · exact hr y g
theorem compR_T {f : α → Res (Option β)} {P : β → Prop} {xs : List α} (hl : xs.length ≤ sizeLine) (h : ∀ x ∈ xs, (f x).Ok fun o => ∀ y, o = some y → P y) : (compR f xs).Ok fun ys => ∀ y ∈ ys, P y := by
  unfold compR; rw [if_pos hl]
  obtain ⟨r, e, hr⟩ := (compL_T h).get
  rw [e]; exact hr
end
theorem isIn_ok {ts : List Tab} {m : Res Tab} (h : isIn ts m = true) : m.Ok fun t => t ∈ ts := by
  cases m with
  | ok t => exact List.elem_iff.mp h
  | err x => cases h
  | bad => cases h
  | all g => cases h
theorem clo_step {ts : List Tab} {ss : List StepT} (h : clB ts ss = true) : ∀ {xs : List StepT} {t : Tab}, t ∈ ts → (∀ s ∈ xs, s ∈ ss) → (foldR (fun (s5 : Tab) x6 => (m_behind_step x6 s5).bind fun z9 => Res.ok z9) xs t).Ok fun t => t ∈ ts := by
  intro xs t ht hx
  obtain ⟨t', e, h'⟩ := foldR_inv (f := fun (s5 : Tab) x6 => (m_behind_step x6 s5).bind fun z9 => Res.ok z9) (fun t => t ∈ ts) ht fun t s ht hs => by
    have h1 := List.all_eq_true.mp (List.all_eq_true.mp h t ht) s (hx s hs)
    rw [bind_pure]
    exact (isIn_ok h1).get
  rw [e]; exact h'
def dvs (D : Nat) : List Nat := (List.range (D + 1)).filter fun p => decide (1 ≤ p) && decide (p ∣ D)
theorem mem_dvs {D p : Nat} (hD : 1 ≤ D) (h1 : 1 ≤ p) (h : p ∣ D) : p ∈ dvs D := by
  unfold dvs
  rw [List.mem_filter, List.mem_range, Bool.and_eq_true, decide_eq_true_eq, decide_eq_true_eq]
  exact ⟨Nat.lt_succ_of_le (Nat.le_of_dvd hD h), h1, h⟩
theorem moB_ok {ts : List Tab} {n : Nat} (h : moB ts n = true) {t : Tab} (ht : t ∈ ts) : (moved t (n : Int)).Ok fun m => goodB n m = true := by
  have := List.all_eq_true.mp h t ht
  revert this
  cases moved t (n : Int) with
  | ok m => exact fun h => h
  | err x => exact fun h => nomatch h
  | bad => exact fun h => nomatch h
  | all g => exact fun h => nomatch h
theorem table_ok {n : Nat} {ts : List Tab} {ss : List StepT} (hn : n ≤ 1000) (hc : clB ts ss = true) (hi : inB ts n = true) {xs : List StepT} (he : m_Script_period xs = .ok (n : Int)) (hx : ∀ s ∈ xs, s ∈ ss) : (m_reason_table xs).Ok fun t => t ∈ ts := by
  unfold m_reason_table
  rw [he]
  refine be (a := (n : Int)) rfl ?_
  refine bg (small62_of (by omega) (by omega)) ?_
  refine bi (Q := fun t => t ∈ ts) (isIn_ok hi) fun t ht => ?_
  exact bi (clo_step hc ht hx) fun t ht => ht
/-- sizes 1, 2, 3 -/
def S3 : StepT → Prop
  | .full => True
  | .keep n => n = 1 ∨ n = 2 ∨ n = 3
  | .lean n => n = 1 ∨ n = 2 ∨ n = 3
  | .dig n => n = 1 ∨ n = 2 ∨ n = 3
theorem S3.dv {s : StepT} (h : S3 s) : Dv 6 s := by
  cases s with
  | full => trivial
  | keep n => rcases h with rfl | rfl | rfl <;> first | exact ⟨1, rfl, by decide, by decide⟩ | exact ⟨2, rfl, by decide, by decide⟩ | exact ⟨3, rfl, by decide, by decide⟩
  | lean n => rcases h with rfl | rfl | rfl <;> first | exact ⟨1, rfl, by decide, by decide⟩ | exact ⟨2, rfl, by decide, by decide⟩ | exact ⟨3, rfl, by decide, by decide⟩
  | dig n => rcases h with rfl | rfl | rfl <;> first | exact ⟨1, rfl, by decide, by decide⟩ | exact ⟨2, rfl, by decide, by decide⟩ | exact ⟨3, rfl, by decide, by decide⟩
theorem dvc {m n : Nat} {k : Int} (h : ∃ m : Nat, k = m ∧ 1 ≤ m ∧ m ∣ n) (e : k = m) : m ∣ n := by
  obtain ⟨j, rfl, _, d⟩ := h
  have : j = m := by omega
  rwa [← this]
theorem S3.mem {ss : List StepT} {n : Nat} (hf : .full ∈ ss) (h1 : ∀ m : Nat, m ∈ [1, 2, 3] → m ∣ n → .keep m ∈ ss ∧ .lean m ∈ ss ∧ .dig m ∈ ss) {s : StepT} (h : S3 s) (hd : Dv n s) : s ∈ ss := by
  cases s with
  | full => exact hf
  | keep k => rcases h with rfl | rfl | rfl <;> first | exact (h1 1 (by decide) (dvc hd rfl)).1 | exact (h1 2 (by decide) (dvc hd rfl)).1 | exact (h1 3 (by decide) (dvc hd rfl)).1
  | lean k => rcases h with rfl | rfl | rfl <;> first | exact (h1 1 (by decide) (dvc hd rfl)).2.1 | exact (h1 2 (by decide) (dvc hd rfl)).2.1 | exact (h1 3 (by decide) (dvc hd rfl)).2.1
  | dig k => rcases h with rfl | rfl | rfl <;> first | exact (h1 1 (by decide) (dvc hd rfl)).2.2 | exact (h1 2 (by decide) (dvc hd rfl)).2.2 | exact (h1 3 (by decide) (dvc hd rfl)).2.2
/-- what is told of a period: its tables -/
structure TabsAt (n : Nat) (ts : List Tab) (ss : List StepT) : Prop where
  c : clB ts ss = true
  i : inB ts n = true
  f : .full ∈ ss
  s : ∀ m : Nat, m ∈ [1, 2, 3] → m ∣ n → .keep m ∈ ss ∧ .lean m ∈ ss ∧ .dig m ∈ ss
theorem at1 : TabsAt 1 tabA1 stpA1 := ⟨cloA1, iniA1, by decide, by decide⟩
theorem at2 : TabsAt 2 tabA2 stpA2 := ⟨cloA2, iniA2, by decide, by decide⟩
theorem at3 : TabsAt 3 tabA3 stpA3 := ⟨cloA3, iniA3, by decide, by decide⟩
theorem at6 : TabsAt 6 tabA6 stpA6 := ⟨cloA6, iniA6, by decide, by decide⟩
theorem dv6 {p : Nat} (h1 : 1 ≤ p) (h : p ∣ 6) : p = 1 ∨ p = 2 ∨ p = 3 ∨ p = 6 := by
  have := Nat.le_of_dvd (by decide) h
  have : p = 1 ∨ p = 2 ∨ p = 3 ∨ p = 4 ∨ p = 5 ∨ p = 6 := by omega
  rcases this with rfl | rfl | rfl | rfl | rfl | rfl <;> first | omega | exact absurd h (by decide)
theorem at_ {p : Nat} (h1 : 1 ≤ p) (h : p ∣ 6) : ∃ ts ss, TabsAt p ts ss ∧ ∀ L : Nat, 1 ≤ L → L ∣ 6 → p ∣ L → moB ts L = true := by
  rcases dv6 h1 h with rfl | rfl | rfl | rfl
  · exact ⟨_, _, at1, fun L l1 l2 l3 => by rcases dv6 l1 l2 with rfl | rfl | rfl | rfl <;> first | exact movA1_1 | exact movA1_2 | exact movA1_3 | exact movA1_6⟩
  · exact ⟨_, _, at2, fun L l1 l2 l3 => by rcases dv6 l1 l2 with rfl | rfl | rfl | rfl <;> first | exact movA2_2 | exact movA2_6 | exact absurd l3 (by decide)⟩
  · exact ⟨_, _, at3, fun L l1 l2 l3 => by rcases dv6 l1 l2 with rfl | rfl | rfl | rfl <;> first | exact movA3_3 | exact movA3_6 | exact absurd l3 (by decide)⟩
  · exact ⟨_, _, at6, fun L l1 l2 l3 => by rcases dv6 l1 l2 with rfl | rfl | rfl | rfl <;> first | exact movA6_6 | exact absurd l3 (by decide)⟩
/-- a script with sizes 1, 2, 3 -/
structure Sc3 (xs : List StepT) : Prop where
  l : xs.length ≤ 1000
  s : ∀ s ∈ xs, S3 s
theorem moved_ok {xs : List StepT} (h : Sc3 xs) {p : Nat} (he : m_Script_period xs = .ok (p : Int)) (h1 : 1 ≤ p) (h2 : p ∣ 6) (hd : ∀ s ∈ xs, Dv p s) {L : Nat} (l1 : 1 ≤ L) (l2 : L ∣ 6) (l3 : p ∣ L) : (m_moved_table xs (L : Int)).Ok fun m => goodB L m = true := by
  obtain ⟨ts, ss, hA, hm⟩ := at_ h1 h2
  have hp := Nat.le_of_dvd (by decide) h2
  show ((m_reason_table xs).bind fun z1 => moved z1 (L : Int)).Ok _
  exact bi (table_ok (by omega) hA.c hA.i he fun s hs => (h.s s hs).mem hA.f hA.s (hd s hs)) fun t ht => moB_ok (hm L l1 l2 l3) ht
theorem goodB_len {n : Nat} {t : Tab} (h : goodB n t = true) : t.length = n := by
  unfold goodB at h
  rw [Bool.and_eq_true, decide_eq_true_eq] at h
  exact h.1
theorem goodB_row {n : Nat} {t : Tab} (h : goodB n t = true) : ∀ rows ∈ t, ∀ r ∈ rows, 0 ≤ r.1 ∧ 0 ≤ r.2 := fun rows hr r hx => by
  unfold goodB at h
  rw [Bool.and_eq_true] at h
  have := List.all_eq_true.mp (List.all_eq_true.mp h.2 rows hr) r hx
  rw [Bool.and_eq_true, decide_eq_true_eq, decide_eq_true_eq] at this
  exact this
theorem holds_val {a b : Row} : (m_holds_in a b).Ok Tr := by
  unfold m_holds_in
  rw [andR_ok]
  cases decide (Builtin.bitAnd a.1 b.1 = a.1) <;> trivial
theorem held_ok {rows : List Row} {r : Row} : (m_is_held rows r).Ok Tr := by
  unfold m_is_held
  refine bi (forT1 fun s x hx => bi holds_val fun b _ => cB (fun _ => trivial) fun _ => trivial) fun c _ => finT (fun _ => trivial) fun _ => trivial
theorem and1 {z : Int} (h : 0 ≤ z) : 0 ≤ Builtin.bitAnd z 1 ∧ Builtin.bitAnd z 1 ≤ 1 := by
  obtain ⟨n, rfl⟩ := Int.eq_ofNat_of_zero_le h
  have e : Builtin.bitAnd (n : Int) 1 = ((n &&& 1 : Nat) : Int) := by
    unfold Builtin.bitAnd
    rw [decide_eq_true (by omega : (0 : Int) ≤ (n : Int)), decide_eq_true (by decide : (0 : Int) ≤ 1)]
    rfl
  rw [e, Nat.and_one_is_mod]
  omega
theorem pshr_ok {i j : Int} (h : 0 ≤ j) : pshr i j = .ok (i / 2 ^ j.toNat) := guard_ok h
theorem kinds_ok {r : Row} (h1 : 0 ≤ r.1) (h2 : 0 ≤ r.2) {L : Nat} (hL : L ≤ 1000) : (compR (β := Int) (fun x1 => (pshr r.1 x1).bind fun z2 => (pshr r.2 x1).bind fun z3 => Res.ok (some ((Builtin.bitAnd z2 (1 : Int)) + (Builtin.bitAnd z3 (1 : Int))))) (rangeL 0 L)).Ok fun l => l.length = L ∧ ∀ x ∈ l, 0 ≤ x ∧ x ≤ 2 := by
  rw [compR_map (fun x => Builtin.bitAnd (r.1 / 2 ^ x.toNat) (1 : Int) + Builtin.bitAnd (r.2 / 2 ^ x.toNat) (1 : Int)) (by rw [rangeL_length, sz]; omega) fun x hx => by
    have := (mem_rangeL.mp hx).1
    rw [pshr_ok this, bind_ok, pshr_ok this, bind_ok]]
  refine ⟨by rw [List.length_map, rangeL_length], fun x hx => ?_⟩
  obtain ⟨y, hy, rfl⟩ := List.mem_map.mp hx
  have g1 : (0 : Int) ≤ r.1 / 2 ^ y.toNat := Int.ediv_nonneg h1 (Int.le_of_lt (Int.pow_pos (by decide)))
  have g2 : (0 : Int) ≤ r.2 / 2 ^ y.toNat := Int.ediv_nonneg h2 (Int.le_of_lt (Int.pow_pos (by decide)))
  have a1 := and1 g1
  have a2 := and1 g2
  omega
theorem putd_ok {r : Row} (h1 : 0 ≤ r.1) (h2 : 0 ≤ r.2) {L : Nat} (hL : L ≤ 1000) {cell : Int} (c1 : 0 ≤ cell) (c2 : cell < L) : (m_put_down r cell (L : Int)).Ok Tr := by
  unfold m_put_down
  refine bg (small62_of (by omega) (by omega)) ?_
  refine bi (kinds_ok h1 h2 hL) fun l4 ⟨e4, b4⟩ => ?_
  refine bg (small62_of (by omega) (by omega)) ?_
  have hix : ∀ x ∈ rangeL 0 L, ∃ v, pix l4 x = .ok v := fun x hx => by
    have := mem_rangeL.mp hx
    obtain ⟨k, rfl⟩ := Int.eq_ofNat_of_zero_le this.1
    have hk : k < l4.length := by omega
    exact ⟨_, pix_nat (List.getElem?_eq_getElem hk)⟩
  have e8 : compR (β := Int) (fun x5 => (orR ((pix l4 x5).bind fun z6 => Res.ok (decide ((0 : Int) < z6))) (Res.ok (decide (x5 = cell)))).bind fun t7 => cond t7 (Res.ok (some x5)) (Res.ok none)) (rangeL 0 L) = .ok ((rangeL 0 L).filter fun x => decide (0 < l4.getD x.toNat 0) || decide (x = cell)) := by
    refine compR_filter _ (by rw [rangeL_length, sz]; omega) fun x hx => ?_
    have := mem_rangeL.mp hx
    obtain ⟨k, rfl⟩ := Int.eq_ofNat_of_zero_le this.1
    have hk : k < l4.length := by omega
    rw [pix_nat (List.getElem?_eq_getElem hk), bind_ok, orR_ok]
    simp only [List.getD, Int.toNat_natCast, List.getElem?_eq_getElem hk, Option.getD_some]
    cases decide (0 < l4[k]) <;> cases decide ((k : Int) = cell) <;> rfl
  refine be e8 ?_
  have hmem : cell ∈ (rangeL 0 L).filter fun x => decide (0 < l4.getD x.toNat 0) || decide (x = cell) := List.mem_filter.mpr ⟨mem_rangeL.mpr ⟨c1, by omega⟩, by simp⟩
  generalize hg : (rangeL 0 L).filter (fun x => decide (0 < l4.getD x.toNat 0) || decide (x = cell)) = l8 at hmem
  have hpos : 0 < l8.length := List.length_pos_of_mem hmem
  refine be (a := maxL l8) (guard_ok hpos) ?_
  have hz9 := maxL_mem hpos
  rw [← hg] at hz9
  have hz := mem_rangeL.mp (List.mem_filter.mp hz9).1
  rw [hg] at hz
  generalize maxL l8 = z9 at hz
  have hcut : ∀ x ∈ cutD l4 none (some (z9 + 1)), x ∈ l4 := fun x hx => by
    obtain ⟨k, hk⟩ := Int.eq_ofNat_of_zero_le (show 0 ≤ z9 + 1 by omega)
    rw [hk, cutD_to] at hx
    exact List.mem_of_mem_take hx
  have hcl : (cutD l4 none (some (z9 + 1))).length ≤ 1000 := by
    obtain ⟨k, hk⟩ := Int.eq_ofNat_of_zero_le (show 0 ≤ z9 + 1 by omega)
    rw [hk, cutD_to, List.length_take]; omega
  generalize cutD l4 none (some (z9 + 1)) = l9 at hcut hcl
  have e12 : compR (β := Nat) (fun x10 => (pixS (".0a" : Str) x10).bind fun z11 => Res.ok (some z11)) l9 = .ok (l9.map fun x => [46, 48, 97].getD x.toNat 0) := by
    refine compR_map _ (by rw [sz]; omega) fun x hx => ?_
    have hb := b4 x (hcut x hx)
    have : x = 0 ∨ x = 1 ∨ x = 2 := by omega
    rcases this with rfl | rfl | rfl
    · rw [show pixS (".0a" : Str) (0 : Int) = .ok 46 from pixS_mk (i := 0) (by decide +kernel) (by decide +kernel)]; rfl
    · rw [show pixS (".0a" : Str) (1 : Int) = .ok 48 from pixS_mk (i := 1) (by decide +kernel) (by decide +kernel)]; rfl
    · rw [show pixS (".0a" : Str) (2 : Int) = .ok 97 from pixS_mk (i := 2) (by decide +kernel) (by decide +kernel)]; rfl
  refine be e12 ?_
  have hcs : CellS (l9.map fun x => [46, 48, 97].getD x.toNat 0) := List.all_eq_true.mpr fun c hc => by
    obtain ⟨x, hx, rfl⟩ := List.mem_map.mp hc
    have hb := b4 x (hcut x hx)
    have : x = 0 ∨ x = 1 ∨ x = 2 := by omega
    rcases this with rfl | rfl | rfl <;> decide
  have hl9 : (l9.map fun x => [46, 48, 97].getD x.toNat 0).length ≤ 1000 := by rw [List.length_map]; exact hcl
  generalize (l9.map fun x => [46, 48, 97].getD x.toNat 0) = cs at hcs hl9
  refine be (a := mk cs) (by have := join_chS (f := id) (xs := cs) (by omega); rwa [List.map_id] at this) ?_
  refine be (file_ok (by omega) hcs) trivial
theorem more_ok {xs ys : List StepT} (hx : Sc3 xs) (hy : Sc3 ys) : (m_more_of xs ys).Ok Tr := by
  obtain ⟨p, ep, p1, p2, p3⟩ := period_o (D := 6) (by decide) hx.l fun s hs => (hx.s s hs).dv
  obtain ⟨q, eq, q1, q2, q3⟩ := period_o (D := 6) (by decide) hy.l fun s hs => (hy.s s hs).dv
  unfold m_more_of
  rw [ep, eq]
  refine be (a := (p : Int)) rfl ?_
  refine be (a := (q : Int)) rfl ?_
  refine bi (multiple_o (D := 6) (by decide) (ns := [(p : Int), (q : Int)]) fun x hx => by
    rcases List.mem_cons.mp hx with rfl | h
    · exact ⟨p, rfl, p1, p2⟩
    · rw [List.mem_singleton.mp h]; exact ⟨q, rfl, q1, q2⟩) fun z ⟨L, ez, l1, l2, l3⟩ => ?_
  subst ez
  have pL : p ∣ L := dvc (k := (p : Int)) (l3 _ List.mem_cons_self) rfl
  have qL : q ∣ L := dvc (k := (q : Int)) (l3 _ (List.mem_cons_of_mem _ List.mem_cons_self)) rfl
  have hL := Nat.le_of_dvd (by decide) l2
  refine bi (moved_ok hy eq q1 q2 q3 l1 l2 qL) fun z4 g4 => ?_
  refine bi (moved_ok hx ep p1 p2 p3 l1 l2 pL) fun z5 g5 => ?_
  refine bi (forT1 fun _ x hx => ?_) fun c _ => finT (fun _ => trivial) fun _ => trivial
  obtain ⟨i, rows, rfl, hi⟩ := mem_enumL hx
  have hil : i < L := by
    have := (List.getElem?_eq_some_iff.mp hi).1
    rw [goodB_len g5] at this; exact this
  refine bi (forT1 fun _ r hr => ?_) fun c _ => finT (fun _ => trivial) fun _ => trivial
  have hb := goodB_row g5 rows (List.mem_of_getElem? hi) r hr
  refine be (pix_nat (List.getElem?_eq_getElem (by rw [goodB_len g4]; exact hil))) ?_
  refine bi held_ok fun b _ => cB (fun _ => trivial) fun _ => ?_
  exact bi (putd_ok hb.1 hb.2 (by omega) (by omega) (by omega)) fun _ _ => trivial
theorem ptg_ok {xs ys : List StepT} (hx : Sc3 xs) (hy : Sc3 ys) : (m_parting_of xs ys).Ok Tr := by
  unfold m_parting_of
  refine bi (more_ok hx hy) fun z _ => ?_
  refine bi (Q := Tr) (cB (fun _ => ?_) fun _ => trivial) fun _ _ => trivial
  exact bi (more_ok hy hx) fun _ _ => trivial
theorem two_ok {xs ys : List StepT} : m_check_two xs ys = .ok () := rfl
theorem add_val {xs ys : List StepT} (h : xs.length + ys.length ≤ 1000) : (m_Script_add xs ys).ne = .ok (xs ++ ys) := by
  unfold m_Script_add
  rw [show pcatL xs ys = .ok (xs ++ ys) from guard_ok (by rw [sz]; omega), bind_ok, script_val (by rw [List.length_append]; omega)]; rfl
theorem Sc3.app {xs ys : List StepT} (hx : Sc3 xs) (hy : Sc3 ys) (h : xs.length + ys.length ≤ 1000) : Sc3 (xs ++ ys) := ⟨by rw [List.length_append]; exact h, fun s hs => by
  rcases List.mem_append.mp hs with h | h
  · exact hx.s s h
  · exact hy.s s h⟩
theorem Sc3.nil : Sc3 [] := ⟨by decide, fun s h => by simp at h⟩
theorem within_val {v a b : Int} (h1 : a ≤ v) (h2 : v ≤ b) : m_check_within v a b = .ok () := by
  unfold m_check_within
  rw [show m_is_whole v = .ok true from rfl, bind_ok, cond_true, decide_eq_true h1, cond_true, bind_ok, decide_eq_true h2]; rfl
theorem without_ok {xs : List StepT} (hx : Sc3 xs) {k : Int} (h0 : 0 ≤ k) (h1 : k < xs.length) : (m_Script_without xs k).Ok Sc3 := by
  obtain ⟨k, rfl⟩ := Int.eq_ofNat_of_zero_le h0
  have hl := hx.l
  unfold m_Script_without
  refine be (within_val (by omega) (by omega)) ?_
  have e1 : cutD xs none (some (k : Int)) = xs.take k := cutD_to
  have e2 : cutD xs (some ((k : Int) + 1)) none = xs.drop (k + 1) := cutD_from (i := k + 1)
  rw [e1, e2]
  have hlen : (xs.take k ++ xs.drop (k + 1)).length ≤ 1000 := by rw [List.length_append, List.length_take, List.length_drop]; omega
  refine be (a := xs.take k ++ xs.drop (k + 1)) (guard_ok (by rw [sz, List.length_take, List.length_drop]; omega)) ?_
  refine be (script_val (by omega)) ?_
  refine ⟨hlen, fun s hs => hx.s s ?_⟩
  rcases List.mem_append.mp hs with h | h
  · exact List.mem_of_mem_take h
  · exact List.mem_of_mem_drop h
theorem plen_val {xs : List StepT} (h : xs.length ≤ 1000000) : plenO (m_Script_len xs) = .ok (xs.length : Int) := by
  unfold plenO m_Script_len
  rw [show (Res.ok (xs.length : Int)).ne = .ok (xs.length : Int) from rfl, bind_ok]
  have h1 : 0 ≤ (xs.length : Int) ∧ (xs.length : Int) < 2 ^ 63 := ⟨by omega, by omega⟩
  exact guard_ok h1
theorem call_ok {xs : List StepT} (hx : Sc3 xs) (hl : xs.length ≤ 400) {way : Int} (h0 : 0 ≤ way) (h8 : way < 8) : (m_law_call way xs xs).Ok Tr := by
  unfold m_law_call
  have hxx : Sc3 (xs ++ xs) := hx.app hx (by omega)
  have hn : m_Script_make none = .ok [] := by
    show (m_are_steps []).bind _ = _
    unfold m_are_steps
    rw [compR_nil]
    exact guard_ok rfl
  refine cD (fun _ => ?_) fun _ => cD (fun _ => ?_) fun _ => cD (fun _ => ?_) fun _ => cD (fun _ => ?_) fun _ => cD (fun _ => ?_) fun _ => cD (fun _ => ?_) fun _ => cD (fun _ => ?_) fun _ => cD (fun _ => ?_) fun _ => by omega
  · exact bi (Q := Tr) (be (a := ()) rfl (bi (ptg_ok hx hx) fun _ _ => trivial)) fun _ _ => trivial
  · exact bi (Q := Tr) (be (a := ()) rfl (bi (ptg_ok hx hx) fun _ _ => trivial)) fun _ _ => trivial
  · exact bi (Q := Tr) (be (a := ()) rfl (bi (more_ok hx hx) fun _ _ => trivial)) fun _ _ => trivial
  · exact bi (Q := Tr) (be (a := ()) rfl (bi (more_ok hx hx) fun _ _ => trivial)) fun _ _ => trivial
  · refine bi (Q := Tr) ?_ fun _ _ => trivial
    unfold m_exchangeable
    refine be two_ok ?_
    refine be (add_val (by omega)) ?_
    refine be (add_val (by omega)) ?_
    exact bi (ptg_ok hxx hxx) fun _ _ => trivial
  · refine bi (Q := Tr) ?_ fun _ _ => trivial
    unfold m_needless
    refine be (a := ()) rfl ?_
    refine be (plen_val (by omega)) ?_
    rw [guard_ok (show small62 (xs.length : Int) from small62_of (by omega) (by omega)), bind_ok]
    refine bi (compR_T (P := Tr) (by rw [rangeL_length, sz]; omega) fun k hk => ?_) fun _ _ => trivial
    have := mem_rangeL.mp hk
    refine bi (without_ok hx (by omega) (by omega)) fun ys hy => ?_
    exact bi (ptg_ok hx hy) fun o _ => cB (fun _ => fun _ _ => trivial) fun _ => fun _ _ => trivial
  · refine bi (Q := Tr) ?_ fun _ _ => trivial
    unfold m_keeps_holes
    refine be (a := ()) rfl ?_
    refine be hn ?_
    exact bi (more_ok hx .nil) fun _ _ => trivial
  · refine bi (Q := Tr) ?_ fun _ _ => trivial
    unfold m_keeps_written
    refine be (a := ()) rfl ?_
    refine be hn ?_
    exact bi (more_ok .nil hx) fun _ _ => trivial
/-- no script -/
def NS (v : Any) : Prop := pisO su_Script v = .ok false ∧ SV v
theorem told_v {v o : Any} (h : pisO su_Script v = .ok false) {way : Int} (h0 : 0 ≤ way) (h8 : way < 8) : m_law_told way v o = .ok [v] := by
  have e1 : m_check_script__v2 v = .err ⟨.script, v⟩ := by unfold m_check_script__v2; rw [h]; rfl
  have e2 : m_check_two__v2 v o = .err ⟨.script, v⟩ := by unfold m_check_two__v2; rw [e1]; rfl
  have : m_law_call__v2 way v o = .err ⟨.script, v⟩ := by
    unfold m_law_call__v2 m_alike__v2 m_parting__v2 m_never_more__v2 m_more_file__v2 m_exchangeable__v2 m_needless__v2 m_keeps_holes__v2 m_keeps_written__v2
    rw [e1, e2]
    have : way = 0 ∨ way = 1 ∨ way = 2 ∨ way = 3 ∨ way = 4 ∨ way = 5 ∨ way = 6 ∨ way = 7 := by omega
    rcases this with rfl | rfl | rfl | rfl | rfl | rfl | rfl | rfl <;> rfl
  unfold m_law_told
  rw [this]; rfl
theorem told_v2 {xs : List StepT} {o : Any} (h : pisO su_Script o = .ok false) {way : Int} (h0 : 0 ≤ way) (h8 : way < 5) : m_law_told__v2 way xs o = .ok [o] := by
  have e1 : m_check_script__v2 o = .err ⟨.script, o⟩ := by unfold m_check_script__v2; rw [h]; rfl
  have e2 : m_check_two__v3 xs o = .err ⟨.script, o⟩ := by unfold m_check_two__v3; rw [e1]; rfl
  have : m_law_call__v3 way xs o = .err ⟨.script, o⟩ := by
    unfold m_law_call__v3 m_alike__v3 m_parting__v3 m_never_more__v3 m_more_file__v3 m_exchangeable__v3
    rw [e2]
    have : way = 0 ∨ way = 1 ∨ way = 2 ∨ way = 3 ∨ way = 4 := by omega
    rcases this with rfl | rfl | rfl | rfl | rfl <;> rfl
  unfold m_law_told__v2
  rw [this]; rfl
theorem s3_of {x : Str × Int} (h : x.2 ∈ [(1 : Int), 2, 3]) : S3 (stepOf x) := by
  have : x.2 = 1 ∨ x.2 = 2 ∨ x.2 = 3 := by simpa using h
  unfold stepOf
  split
  · trivial
  · split
    · exact this
    · split <;> exact this
theorem empty_file : m_File_make ("" : Str) = .ok ("" : Str) := file_ok (l := []) (by decide) rfl
theorem a_file : m_File_make ("a" : Str) = .ok ("a" : Str) := file_ok (l := [97]) (by decide) rfl
theorem told_yes {xs : List StepT} (hx : Sc3 xs) (hl : xs.length ≤ 400) {way : Int} (h0 : 0 ≤ way) (h8 : way < 8) : (m_law_told__v3 way xs xs).Ok fun r => ∃ z, r = [z, .int 0, .int 0] := by
  unfold m_law_told__v3
  obtain ⟨z, e, _⟩ := (call_ok hx hl h0 h8).get
  rw [e]
  exact ⟨z, rfl⟩
theorem law_ok (ns : List Int) (h : ns.length ≤ 63) : (m_law ns).Out (fun r => r = true) (fun _ => False) := by
  unfold m_law
  refine bO purse_o fun p hp => ?_
  refine bO (law_steps_o hp (by decide) (by decide) (by decide) (by decide)) fun r ⟨r1, r2, r3⟩ => ?_
  have hsz : ∀ x ∈ r.1, 1 ≤ x.2 := fun x hx => by
    have := r2 x hx
    simp at this
    omega
  refine bE (law_script_val (by omega) hsz) ?_
  refine bE (compR_map stepOf (by rw [sz]; omega) fun x hx => by rw [law_step_val (hsz x hx)]; rfl) ?_
  have h3 : Sc3 (r.1.map stepOf) := ⟨by rw [List.length_map]; omega, fun s hs => by
    obtain ⟨x, hx, rfl⟩ := List.mem_map.mp hs
    exact s3_of (r2 x hx)⟩
  have hl : (r.1.map stepOf).length ≤ 400 := by rw [List.length_map]; omega
  generalize r.1.map stepOf = xs at h3 hl
  intro q8 q9 q10 q11
  refine bE empty_file ?_
  intro q13
  refine bE a_file ?_
  intro q15
  refine bE (a := (2 : Int)) (by unfold m_Keep_make; rw [least_val (by decide)]; rfl) ?_
  intro q17
  refine foF (fun _ => True) trivial (fun s v _ hv => ?_) fun _ _ => ?_
  · have hv : NS v := by
      simp only [List.mem_cons, List.not_mem_nil, or_false] at hv
      rcases hv with rfl | rfl | rfl | rfl | rfl | rfl | rfl | rfl | rfl | rfl | rfl | rfl
      · exact ⟨rfl, sv_non⟩
      · exact ⟨rfl, sv_tag⟩
      · exact ⟨rfl, sv_int⟩
      · exact ⟨rfl, sv_tag⟩
      · exact ⟨rfl, by simp [SV, selfA, selfAL, dpA, dpAL]⟩
      · exact ⟨rfl, sv_str⟩
      · exact ⟨rfl, sv_tag⟩
      · exact ⟨rfl, sv_tag⟩
      · exact ⟨rfl, sv_tag⟩
      · exact ⟨rfl, sv_bl⟩
      · exact ⟨rfl, sv_tag⟩
      · exact ⟨rfl, sv_tag⟩
    obtain ⟨hf, hv⟩ := hv
    refine foF (fun _ => True) trivial (fun _ way _ hw => ?_) fun _ _ => ?_
    · have hw := mem_rangeL.mp hw
      have w8 : way < 8 := by have := hw.2; simp at this; omega
      intro q26
      refine foF (fun _ => True) trivial (fun _ o _ _ => ?_) fun _ _ => nxA trivial
      refine bE (told_v hf hw.1 w8) ?_
      refine bE (ne_self hv) ?_
      exact nxA trivial
    · refine foF (fun _ => True) trivial (fun _ way _ hw => ?_) fun _ _ => nxA trivial
      have hw := mem_rangeL.mp hw
      have w5 : way < 5 := by have := hw.2; simp at this; omega
      refine bE (told_v2 hf hw.1 w5) ?_
      refine bE (ne_self hv) ?_
      exact nxA trivial
  · refine bE (compR_none (by rw [rangeL_length, sz]; decide) ?_) rfl
    intro way hw
    have hw := mem_rangeL.mp hw
    have w8 : way < 8 := by have := hw.2; simp at this; omega
    obtain ⟨_, e, z, rfl⟩ := (told_yes h3 hl hw.1 w8).get
    rw [e, bind_ok]
    have e2 : cutD [z, .int 0, .int 0] (some (1 : Int)) none = [.int 0, .int 0] := cutD_from (i := 1)
    rw [e2, show peqA [.int 0, .int 0] [.int 0, .int 0] = .ok true from guard_ok ⟨eqAL_self (by decide), by decide⟩]
    rfl
end Kh

set_option Elab.async false
set_option linter.all false
set_option maxRecDepth 100000
set_option maxHeartbeats 4000000
namespace Kh
open PySem PySem.Spec L2
open PySem.W (Frag)
section
variable {w : World} {K : Frag} {mg : Str → Option Value} {base : Heap}
theorem ok_law (R : Prg K mg) : FnOk PR w K mg base CX0 15 R.f_law R.d_law P_law (toSp K spLaw) := by
  refine fn_law false R.F_law sc_law (fun h => nomatch h) (fun ds M P E ⟨a, _, q, _⟩ => by rw [q]; rfl) fun cdv A outer s H hr ds M Pd PE h => ?_
  obtain ⟨a_script, hlen, rfl, rfl, hp⟩ := h
  have hu := hr.units
  have h : (m_law a_script).Out (fun r => Pd (.bl r) []) (fun _ => False) := out_mono (law_ok a_script hlen) (fun r e => by rw [show r = true from e]; exact hp) (fun _ h => h)
  refine WS.ends ?_
  refine ws_set <| ex_callA (ok_law_steps R) (hr.mono (by decide)) R.m_law_steps R.F_law_steps R.b_law_steps <| ea_cons <| ex_callF (ok_law_purse R) (hr.mono (by decide)) R.m_law_purse R.F_law_purse R.b_law_purse <| ea_cons <| ex_var ⟨rfl, rfl⟩ <| ea_cons <| ex_int <| ea_nil <| ⟨a_script, (0 : Int), rfl, outR (ob h) (fun z1 h q2 => ea_cons <| ex_lst <| ea_cons <| ex_int <| ea_cons <| ex_int <| ea_cons <| ex_int <| ea_nil ⟨ln, ea_cons <| ex_int <| ea_nil <| apC [] ⟨_, z1, ([(1 : Int), (2 : Int), (3 : Int)] : List Int), (3 : Int), rfl, rfl, outC1 (ob h) (fun z3 h => ?_) (fun _ h => h)⟩⟩) (fun _ h => dX [] h)⟩
  refine ws_asg <| ex_tup <| ea_cons <| ex_callF (ok_law_script R) (hr.mono (by decide)) R.m_law_script R.F_law_script R.b_law_script <| ea_cons <| ex_var ⟨rfl, rfl⟩ <| ea_nil <| ⟨z3.1, rfl, outU (ob h) (fun z4 h => ea_cons <| ex_lcT [("step", 7)] <| ei_list <| ex_var ⟨rfl, rfl⟩ <| ⟨_, rfl, compT (pairD Dat.str Dat.int) (stepD R) (xs := z3.1) (ob h) trivial (fun x5 _ h s H C cl fp => gc_name  <| fun s H C cl fp => ef_nil ⟨fun _ s H C cl fp => ex_callF (ok_law_step R) (hr.mono (by decide)) R.m_law_step R.F_law_step R.b_law_step <| ea_cons <| ex_var ⟨rfl, rfl⟩ <| ea_nil <| ⟨x5, rfl, outU (ob h) (fun z6 h => ⟨rfl, z6, rfl, h⟩) (fun _ h => h)⟩, fun z => nomatch z⟩) (fun l7 h => ea_nil ⟨ln, gx_tup <| gxs_cons <| gx_name  <| gxs_cons <| gx_name  <| gxs_nil <| ?_⟩)⟩) (fun _ h => dX [_] h)⟩
  refine ws_forT <| ei_list <| ex_lst <| ea_cons <| ex_asA <| ex_non <| ⟨anyD (clR R) Any.non, (by first | rfl | (simp only [anyD, anyDL, anyDL_map, List.map_map]; done) | (simp only [anyD, anyDL, anyDL_map, List.map_map]; rfl) | (simp only [anyD, anyDL, anyDL_map, List.map_map, stepA_comp, stepA_D]; rfl) | (simp only [anyD, anyDL, anyDL_map, List.map_map, stepA_comp, stepA_D]; done)), ea_cons <| ex_tagA <| ex_var ⟨rfl, rfl⟩ <| ⟨rfl, anyD (clR R) (Any.lst (l7.map stepA)), (by first | rfl | (simp only [anyD, anyDL, anyDL_map, List.map_map]; done) | (simp only [anyD, anyDL, anyDL_map, List.map_map]; rfl) | (simp only [anyD, anyDL, anyDL_map, List.map_map, stepA_comp, stepA_D]; rfl) | (simp only [anyD, anyDL, anyDL_map, List.map_map, stepA_comp, stepA_D]; done)), _, outAll h, fun q8 h => ea_cons <| ex_asA <| ex_int <| ⟨anyD (clR R) (Any.int (0 : Int)), (by first | rfl | (simp only [anyD, anyDL, anyDL_map, List.map_map]; done) | (simp only [anyD, anyDL, anyDL_map, List.map_map]; rfl) | (simp only [anyD, anyDL, anyDL_map, List.map_map, stepA_comp, stepA_D]; rfl) | (simp only [anyD, anyDL, anyDL_map, List.map_map, stepA_comp, stepA_D]; done)), ea_cons <| ex_tagA <| ex_new0 R.K_Full R.mc_Full fun q dx _ _ _ => made_ok (fs := []) <| ⟨rfl, anyD (clR R) ((fun _ => Any.obj .full []) ()), (by first | rfl | (simp only [anyD, anyDL, anyDL_map, List.map_map]; done) | (simp only [anyD, anyDL, anyDL_map, List.map_map]; rfl) | (simp only [anyD, anyDL, anyDL_map, List.map_map, stepA_comp, stepA_D]; rfl) | (simp only [anyD, anyDL, anyDL_map, List.map_map, stepA_comp, stepA_D]; done)), _, outAll h, fun q9 h => ea_cons <| ex_asA <| ex_tup <| ea_nil ⟨ln, ⟨anyD (clR R) (Any.tup []), (by first | rfl | (simp only [anyD, anyDL, anyDL_map, List.map_map]; done) | (simp only [anyD, anyDL, anyDL_map, List.map_map]; rfl) | (simp only [anyD, anyDL, anyDL_map, List.map_map, stepA_comp, stepA_D]; rfl) | (simp only [anyD, anyDL, anyDL_map, List.map_map, stepA_comp, stepA_D]; done)), ea_cons <| ex_asA <| ex_str <| ⟨anyD (clR R) (Any.str ("full" : Str)), (by first | rfl | (simp only [anyD, anyDL, anyDL_map, List.map_map]; done) | (simp only [anyD, anyDL, anyDL_map, List.map_map]; rfl) | (simp only [anyD, anyDL, anyDL_map, List.map_map, stepA_comp, stepA_D]; rfl) | (simp only [anyD, anyDL, anyDL_map, List.map_map, stepA_comp, stepA_D]; done)), ea_cons <| ex_asA <| ex_dicA h fun q10 h => ⟨_, rfl, ea_cons <| ex_tagA <| ex_lst <| ea_cons <| ex_var ⟨rfl, rfl⟩ <| ea_nil ⟨ln, ⟨rfl, anyD (clR R) (Any.lst [((fun xs => Any.obj .script [.tup (xs.map stepA)]) z4)]), (by first | rfl | (simp only [anyD, anyDL, anyDL_map, List.map_map]; done) | (simp only [anyD, anyDL, anyDL_map, List.map_map]; rfl) | (simp only [anyD, anyDL, anyDL_map, List.map_map, stepA_comp, stepA_D]; rfl) | (simp only [anyD, anyDL, anyDL_map, List.map_map, stepA_comp, stepA_D]; done)), _, outAll h, fun q11 h => ea_cons <| ex_tagA <| ex_make0 R.K_File (ok_File_init R) (hr.mono (by decide)) R.mc_File R.b1_File_init (.cons (show RelV (.str "") _ from ⟨_, rfl⟩) .nil) (fun _ => .cons den_str .nil) <| fun q dx _ _ _ => mk_File (ob h) (fun z12 h => ⟨rfl, anyD (clR R) ((fun z => Any.obj .file [.str z]) z12), (by first | rfl | (simp only [anyD, anyDL, anyDL_map, List.map_map]; done) | (simp only [anyD, anyDL, anyDL_map, List.map_map]; rfl) | (simp only [anyD, anyDL, anyDL_map, List.map_map, stepA_comp, stepA_D]; rfl) | (simp only [anyD, anyDL, anyDL_map, List.map_map, stepA_comp, stepA_D]; done)), _, outAll h, fun q13 h => ea_cons <| ex_asA <| ex_bl <| ⟨anyD (clR R) (Any.bl true), (by first | rfl | (simp only [anyD, anyDL, anyDL_map, List.map_map]; done) | (simp only [anyD, anyDL, anyDL_map, List.map_map]; rfl) | (simp only [anyD, anyDL, anyDL_map, List.map_map, stepA_comp, stepA_D]; rfl) | (simp only [anyD, anyDL, anyDL_map, List.map_map, stepA_comp, stepA_D]; done)), ea_cons <| ex_tagA <| ex_make R.K_File (ok_File_init R) (hr.mono (by decide)) R.mc_File R.b_File_init .nil (fun _ => .nil) <| ea_cons <| ex_str <| ea_nil <| fun q dx _ _ _ => mk_File (ob h) (fun z14 h => ⟨rfl, anyD (clR R) ((fun z => Any.obj .file [.str z]) z14), (by first | rfl | (simp only [anyD, anyDL, anyDL_map, List.map_map]; done) | (simp only [anyD, anyDL, anyDL_map, List.map_map]; rfl) | (simp only [anyD, anyDL, anyDL_map, List.map_map, stepA_comp, stepA_D]; rfl) | (simp only [anyD, anyDL, anyDL_map, List.map_map, stepA_comp, stepA_D]; done)), _, outAll h, fun q15 h => ea_cons <| ex_tagA <| ex_make R.K_Keep (ok_Keep_init R) (hr.mono (by decide)) R.mc_Keep R.b_Keep_init .nil (fun _ => .nil) <| ea_cons <| ex_int <| ea_nil <| fun q dx _ _ _ => mk_Keep (ob h) (fun z16 h => ⟨rfl, anyD (clR R) ((fun n => Any.obj .keep [.int n]) z16), (by first | rfl | (simp only [anyD, anyDL, anyDL_map, List.map_map]; done) | (simp only [anyD, anyDL, anyDL_map, List.map_map]; rfl) | (simp only [anyD, anyDL, anyDL_map, List.map_map, stepA_comp, stepA_D]; rfl) | (simp only [anyD, anyDL, anyDL_map, List.map_map, stepA_comp, stepA_D]; done)), _, outAll h, fun q17 h => ea_nil ⟨ln, ⟨_, rfl, forT (anyD (clR R)) (xs := ([Any.non, (Any.tag q8 (Any.lst (l7.map stepA))), (Any.int (0 : Int)), (Any.tag q9 ((fun _ => Any.obj .full []) ())), (Any.tup []), (Any.str ("full" : Str)), (Any.tag q10 .dic), (Any.tag q11 (Any.lst [((fun xs => Any.obj .script [.tup (xs.map stepA)]) z4)])), (Any.tag q13 ((fun z => Any.obj .file [.str z]) z12)), (Any.bl true), (Any.tag q15 ((fun z => Any.obj .file [.str z]) z14)), (Any.tag q17 ((fun n => Any.obj .keep [.int n]) z16))] : List Any)) (fun (s18 : Unit) τ M' => ∃ d4 d5 d6 d7, [some (.scr a_script), some ((lstD (pairD Dat.str Dat.int)) z3.1), some ((scriptD R) z4), some ((lstD (stepD R)) l7), d4, d5, d6, d7] = τ ∧ (q2, .lst (z3.2.map Dat.int)) :: [] = M') (ob h) ⟨_, _, _, _, rfl, rfl⟩ (fun _ _ _ _ => trivial) ?g49 ?g50⟩⟩⟩) (fun _ h => dX [_, _] h)⟩) (fun _ h => dX [_, _] h)⟩⟩) (fun _ h => dX [_, _] h)⟩⟩⟩⟩⟩⟩⟩⟩⟩⟩
  case g49 =>
    rintro x19 s18 _ _ N ⟨d4, d5, d6, d7, rfl, rfl⟩ h hrt20
    refine gx_name  <| ?_
    refine ws_forT <| ei_rng1 R.n_range <| ex_int <| ⟨(8 : Int), rfl, by decide, forT Dat.int (xs := (rangeL 0 (Int.toNat (8 : Int)))) (fun (s22 : Unit) τ M' => ∃ d5 d6 d7, [some (.scr a_script), some ((lstD (pairD Dat.str Dat.int)) z3.1), some ((scriptD R) z4), some ((lstD (stepD R)) l7), some (anyD (clR R) x19), d5, d6, d7] = τ ∧ (q2, .lst (z3.2.map Dat.int)) :: [] = M') (ob h) ⟨_, _, _, rfl, rfl⟩ (fun _ _ _ _ => trivial) ?g37 ?g38⟩
    case g37 =>
      rintro x23 s22 _ _ N ⟨d5, d6, d7, rfl, rfl⟩ h hrt24
      refine gx_name  <| ?_
      refine ws_forT <| ei_list <| ex_lst <| ea_cons <| ex_tagA <| ex_var ⟨rfl, rfl⟩ <| ⟨rfl, anyD (clR R) ((fun xs => Any.obj .script [.tup (xs.map stepA)]) z4), (by first | rfl | (simp only [anyD, anyDL, anyDL_map, List.map_map]; done) | (simp only [anyD, anyDL, anyDL_map, List.map_map]; rfl) | (simp only [anyD, anyDL, anyDL_map, List.map_map, stepA_comp, stepA_D]; rfl) | (simp only [anyD, anyDL, anyDL_map, List.map_map, stepA_comp, stepA_D]; done)), _, outAll h, fun q26 h => ea_cons <| ex_asA <| ex_non <| ⟨anyD (clR R) Any.non, (by first | rfl | (simp only [anyD, anyDL, anyDL_map, List.map_map]; done) | (simp only [anyD, anyDL, anyDL_map, List.map_map]; rfl) | (simp only [anyD, anyDL, anyDL_map, List.map_map, stepA_comp, stepA_D]; rfl) | (simp only [anyD, anyDL, anyDL_map, List.map_map, stepA_comp, stepA_D]; done)), ea_cons <| ex_asA <| ex_int <| ⟨anyD (clR R) (Any.int (5 : Int)), (by first | rfl | (simp only [anyD, anyDL, anyDL_map, List.map_map]; done) | (simp only [anyD, anyDL, anyDL_map, List.map_map]; rfl) | (simp only [anyD, anyDL, anyDL_map, List.map_map, stepA_comp, stepA_D]; rfl) | (simp only [anyD, anyDL, anyDL_map, List.map_map, stepA_comp, stepA_D]; done)), ea_nil ⟨ln, ⟨_, rfl, forT (anyD (clR R)) (xs := ([(Any.tag q26 ((fun xs => Any.obj .script [.tup (xs.map stepA)]) z4)), Any.non, (Any.int (5 : Int))] : List Any)) (fun (s27 : Unit) τ M' => ∃ d6 d7, [some (.scr a_script), some ((lstD (pairD Dat.str Dat.int)) z3.1), some ((scriptD R) z4), some ((lstD (stepD R)) l7), some (anyD (clR R) x19), some (.int x23), d6, d7] = τ ∧ (q2, .lst (z3.2.map Dat.int)) :: [] = M') (ob h) ⟨_, _, rfl, rfl⟩ (fun _ _ _ _ => trivial) ?g35 ?g36⟩⟩⟩⟩⟩
      case g35 =>
        rintro x28 s27 _ _ N ⟨d6, d7, rfl, rfl⟩ h hrt29
        refine gx_name  <| ?_
        refine ws_if <| et_cmp <| ex_callF (ok_law_told R) (hr.mono (by decide)) R.m_law_told R.F_law_told R.b_law_told <| ea_cons <| ex_var ⟨rfl, rfl⟩ <| ea_cons <| ex_asA <| ex_var ⟨rfl, rfl⟩ <| ⟨_, rfl, ea_cons <| ex_asA <| ex_var ⟨rfl, rfl⟩ <| ⟨_, rfl, ea_nil <| ⟨x23, x19, x28, rfl, outU (ob h) (fun z31 h => ex_lst <| ea_cons <| ex_asA <| ex_var ⟨rfl, rfl⟩ <| ⟨_, rfl, ea_nil ⟨ln, r_neAL (xs := z31) (ys := ([x19] : List Any)) hu (ob h) fun z32 h => ⟨_, rfl, cif h (fun h => ?g33) (fun h => ?g34)⟩⟩⟩) (fun _ h => dX [_] h)⟩⟩⟩
        case g33 =>
          exact ws_ret <| ex_bl <| (dN [_] (hrt20 _ (hrt24 _ (hrt29 _ h))))
        case g34 =>
          refine ws_nil ?_
          exact ws_nil ⟨(), ⟨_, _, rfl, rfl⟩, h⟩
      case g36 =>
        rintro s27 _ _ ⟨d6, d7, rfl, rfl⟩ h
        replace h := finO h
        exact ws_nil ⟨(), ⟨_, _, _, rfl, rfl⟩, h⟩
    case g38 =>
      rintro s22 _ _ ⟨d5, d6, d7, rfl, rfl⟩ h
      replace h := finO h
      refine ws_forT <| ei_rng1 R.n_range <| ex_int <| ⟨(5 : Int), rfl, by decide, forT Dat.int (xs := (rangeL 0 (Int.toNat (5 : Int)))) (fun (s39 : Unit) τ M' => ∃ d5 d6 d7, [some (.scr a_script), some ((lstD (pairD Dat.str Dat.int)) z3.1), some ((scriptD R) z4), some ((lstD (stepD R)) l7), some (anyD (clR R) x19), d5, d6, d7] = τ ∧ (q2, .lst (z3.2.map Dat.int)) :: [] = M') (ob h) ⟨_, _, _, rfl, rfl⟩ (fun _ _ _ _ => trivial) ?g47 ?g48⟩
      case g47 =>
        rintro x40 s39 _ _ N ⟨d5, d6, d7, rfl, rfl⟩ h hrt41
        refine gx_name  <| ?_
        refine ws_if <| et_cmp <| ex_callF (ok_law_told__v2 R) (hr.mono (by decide)) R.m_law_told R.F_law_told R.b_law_told <| ea_cons <| ex_var ⟨rfl, rfl⟩ <| ea_cons <| ex_var ⟨rfl, rfl⟩ <| ea_cons <| ex_asA <| ex_var ⟨rfl, rfl⟩ <| ⟨_, rfl, ea_nil <| ⟨x40, z4, x19, rfl, outU (ob h) (fun z43 h => ex_lst <| ea_cons <| ex_asA <| ex_var ⟨rfl, rfl⟩ <| ⟨_, rfl, ea_nil ⟨ln, r_neAL (xs := z43) (ys := ([x19] : List Any)) hu (ob h) fun z44 h => ⟨_, rfl, cif h (fun h => ?g45) (fun h => ?g46)⟩⟩⟩) (fun _ h => dX [_] h)⟩⟩
        case g45 =>
          exact ws_ret <| ex_bl <| (dN [_] (hrt20 _ (hrt41 _ h)))
        case g46 =>
          refine ws_nil ?_
          exact ws_nil ⟨(), ⟨_, _, _, rfl, rfl⟩, h⟩
      case g48 =>
        rintro s39 _ _ ⟨d5, d6, d7, rfl, rfl⟩ h
        replace h := finO h
        exact ws_nil ⟨(), ⟨_, _, _, _, rfl, rfl⟩, h⟩
  case g50 =>
    rintro s18 _ _ ⟨d4, d5, d6, d7, rfl, rfl⟩ h
    replace h := finO h
    exact ws_ret <| ex_cmp <| ex_lcT [("way", 5)] <| ei_rng1 R.n_range <| ex_int <| ⟨(8 : Int), rfl, by decide, compT Dat.int Dat.int (xs := (rangeL 0 (Int.toNat (8 : Int)))) (ob h) trivial (fun x51 _ h s H C cl fp => gc_name  <| fun s H C cl fp => ef_one <| et_cmp <| ex_sl <| ex_callF (ok_law_told__v3 R) (hr.mono (by decide)) R.m_law_told R.F_law_told R.b_law_told <| ea_cons <| ex_var ⟨rfl, rfl⟩ <| ea_cons <| ex_var ⟨rfl, rfl⟩ <| ea_cons <| ex_var ⟨rfl, rfl⟩ <| ea_nil <| ⟨x51, z4, z4, rfl, outU (ob h) (fun z52 h => ep_some <| ex_int <| ⟨_, rfl, ep_none <| l_lstT (anyD (clR R)) (xs := z52) <| ex_lst <| ea_cons <| ex_asA <| ex_int <| ⟨anyD (clR R) (Any.int (0 : Int)), (by first | rfl | (simp only [anyD, anyDL, anyDL_map, List.map_map]; done) | (simp only [anyD, anyDL, anyDL_map, List.map_map]; rfl) | (simp only [anyD, anyDL, anyDL_map, List.map_map, stepA_comp, stepA_D]; rfl) | (simp only [anyD, anyDL, anyDL_map, List.map_map, stepA_comp, stepA_D]; done)), ea_cons <| ex_asA <| ex_int <| ⟨anyD (clR R) (Any.int (0 : Int)), (by first | rfl | (simp only [anyD, anyDL, anyDL_map, List.map_map]; done) | (simp only [anyD, anyDL, anyDL_map, List.map_map]; rfl) | (simp only [anyD, anyDL, anyDL_map, List.map_map, stepA_comp, stepA_D]; rfl) | (simp only [anyD, anyDL, anyDL_map, List.map_map, stepA_comp, stepA_D]; done)), ea_nil ⟨ln, r_neAL (xs := (cutD z52 (some (1 : Int)) none)) (ys := ([(Any.int (0 : Int)), (Any.int (0 : Int))] : List Any)) hu (ob h) fun z53 h => ⟨_, rfl, cif h (fun h => fun s H C cl fp => ex_var ⟨rfl, rfl⟩ <| ⟨rfl, x51, rfl, h⟩) (fun h => ⟨rfl, h⟩)⟩⟩⟩⟩⟩) (fun _ h => h)⟩) (fun l54 h => ex_lst <| ea_nil ⟨ln, r_eqNilT Dat.int hu <| (dN [_] h)⟩)⟩
end
end Kh

set_option Elab.async false
set_option linter.all false
set_option maxRecDepth 100000
set_option maxHeartbeats 2000000
namespace Kh
open PySem PySem.Spec L2
open PySem.W (Frag ksFn)
theorem all_mk {w : World} {K : Frag} {h : Heap} {mg : Str → Option Value} {fa : Addr} (X : K.In h) (G : h.Ns mainGlobals mg) (hfa : mg "law" = some (.ref fa))
    {tg_SIGNS : Tok} {C_File : Addr} {C_Step : Addr} {C_Full : Addr} {C_Keep : Addr} {C_Lean : Addr} {C_Dig : Addr} {C_Script : Addr} {f_is_whole : Addr} {od_is_whole an_is_whole : Option Addr} {sl_is_whole : Array (Option Value)} {oc_is_whole kV_is_whole dc_is_whole pm_is_whole cd_is_whole ct_is_whole : Value} {f_check_least : Addr} {od_check_least an_check_least : Option Addr} {sl_check_least : Array (Option Value)} {oc_check_least kV_check_least dc_check_least pm_check_least cd_check_least ct_check_least : Value} {f_check_within : Addr} {od_check_within an_check_within : Option Addr} {sl_check_within : Array (Option Value)} {oc_check_within kV_check_within dc_check_within pm_check_within cd_check_within ct_check_within : Value} {f_divisor_of : Addr} {od_divisor_of an_divisor_of : Option Addr} {sl_divisor_of : Array (Option Value)} {oc_divisor_of kV_divisor_of dc_divisor_of pm_divisor_of cd_divisor_of ct_divisor_of : Value} {f_multiple_of : Addr} {od_multiple_of an_multiple_of : Option Addr} {sl_multiple_of : Array (Option Value)} {oc_multiple_of kV_multiple_of dc_multiple_of pm_multiple_of cd_multiple_of ct_multiple_of : Value} {f_are_cells : Addr} {od_are_cells an_are_cells : Option Addr} {sl_are_cells : Array (Option Value)} {oc_are_cells kV_are_cells dc_are_cells pm_are_cells cd_are_cells ct_are_cells : Value} {f_are_steps : Addr} {od_are_steps an_are_steps : Option Addr} {sl_are_steps : Array (Option Value)} {oc_are_steps kV_are_steps dc_are_steps pm_are_steps cd_are_steps ct_are_steps : Value} {f_check_script : Addr} {od_check_script an_check_script : Option Addr} {sl_check_script : Array (Option Value)} {oc_check_script kV_check_script dc_check_script pm_check_script cd_check_script ct_check_script : Value} {f_holds_in : Addr} {od_holds_in an_holds_in : Option Addr} {sl_holds_in : Array (Option Value)} {oc_holds_in kV_holds_in dc_holds_in pm_holds_in cd_holds_in ct_holds_in : Value} {f_is_held : Addr} {od_is_held an_is_held : Option Addr} {sl_is_held : Array (Option Value)} {oc_is_held kV_is_held dc_is_held pm_is_held cd_is_held ct_is_held : Value} {f_least_of : Addr} {od_least_of an_least_of : Option Addr} {sl_least_of : Array (Option Value)} {oc_least_of kV_least_of dc_least_of pm_least_of cd_least_of ct_least_of : Value} {f_dug : Addr} {od_dug an_dug : Option Addr} {sl_dug : Array (Option Value)} {oc_dug kV_dug dc_dug pm_dug cd_dug ct_dug : Value} {f_behind_step : Addr} {od_behind_step an_behind_step : Option Addr} {sl_behind_step : Array (Option Value)} {oc_behind_step kV_behind_step dc_behind_step pm_behind_step cd_behind_step ct_behind_step : Value} {f_reason_table : Addr} {od_reason_table an_reason_table : Option Addr} {sl_reason_table : Array (Option Value)} {oc_reason_table kV_reason_table dc_reason_table pm_reason_table cd_reason_table ct_reason_table : Value} {f_moved_table : Addr} {od_moved_table an_moved_table : Option Addr} {sl_moved_table : Array (Option Value)} {oc_moved_table kV_moved_table dc_moved_table pm_moved_table cd_moved_table ct_moved_table : Value} {f_put_down : Addr} {od_put_down an_put_down : Option Addr} {sl_put_down : Array (Option Value)} {oc_put_down kV_put_down dc_put_down pm_put_down cd_put_down ct_put_down : Value} {f_more_of : Addr} {od_more_of an_more_of : Option Addr} {sl_more_of : Array (Option Value)} {oc_more_of kV_more_of dc_more_of pm_more_of cd_more_of ct_more_of : Value} {f_check_two : Addr} {od_check_two an_check_two : Option Addr} {sl_check_two : Array (Option Value)} {oc_check_two kV_check_two dc_check_two pm_check_two cd_check_two ct_check_two : Value} {f_more_file : Addr} {od_more_file an_more_file : Option Addr} {sl_more_file : Array (Option Value)} {oc_more_file kV_more_file dc_more_file pm_more_file cd_more_file ct_more_file : Value} {f_never_more : Addr} {od_never_more an_never_more : Option Addr} {sl_never_more : Array (Option Value)} {oc_never_more kV_never_more dc_never_more pm_never_more cd_never_more ct_never_more : Value} {f_parting_of : Addr} {od_parting_of an_parting_of : Option Addr} {sl_parting_of : Array (Option Value)} {oc_parting_of kV_parting_of dc_parting_of pm_parting_of cd_parting_of ct_parting_of : Value} {f_parting : Addr} {od_parting an_parting : Option Addr} {sl_parting : Array (Option Value)} {oc_parting kV_parting dc_parting pm_parting cd_parting ct_parting : Value} {f_alike : Addr} {od_alike an_alike : Option Addr} {sl_alike : Array (Option Value)} {oc_alike kV_alike dc_alike pm_alike cd_alike ct_alike : Value} {f_exchangeable : Addr} {od_exchangeable an_exchangeable : Option Addr} {sl_exchangeable : Array (Option Value)} {oc_exchangeable kV_exchangeable dc_exchangeable pm_exchangeable cd_exchangeable ct_exchangeable : Value} {f_needless : Addr} {od_needless an_needless : Option Addr} {sl_needless : Array (Option Value)} {oc_needless kV_needless dc_needless pm_needless cd_needless ct_needless : Value} {f_keeps_holes : Addr} {od_keeps_holes an_keeps_holes : Option Addr} {sl_keeps_holes : Array (Option Value)} {oc_keeps_holes kV_keeps_holes dc_keeps_holes pm_keeps_holes cd_keeps_holes ct_keeps_holes : Value} {f_keeps_written : Addr} {od_keeps_written an_keeps_written : Option Addr} {sl_keeps_written : Array (Option Value)} {oc_keeps_written kV_keeps_written dc_keeps_written pm_keeps_written cd_keeps_written ct_keeps_written : Value} {f_law_purse : Addr} {od_law_purse an_law_purse : Option Addr} {sl_law_purse : Array (Option Value)} {oc_law_purse kV_law_purse dc_law_purse pm_law_purse cd_law_purse ct_law_purse : Value} {f_law_draw : Addr} {od_law_draw an_law_draw : Option Addr} {sl_law_draw : Array (Option Value)} {oc_law_draw kV_law_draw dc_law_draw pm_law_draw cd_law_draw ct_law_draw : Value} {f_law_steps : Addr} {od_law_steps an_law_steps : Option Addr} {sl_law_steps : Array (Option Value)} {oc_law_steps kV_law_steps dc_law_steps pm_law_steps cd_law_steps ct_law_steps : Value} {f_law_step : Addr} {od_law_step an_law_step : Option Addr} {sl_law_step : Array (Option Value)} {oc_law_step kV_law_step dc_law_step pm_law_step cd_law_step ct_law_step : Value} {f_law_script : Addr} {od_law_script an_law_script : Option Addr} {sl_law_script : Array (Option Value)} {oc_law_script kV_law_script dc_law_script pm_law_script cd_law_script ct_law_script : Value} {f_law_call : Addr} {od_law_call an_law_call : Option Addr} {sl_law_call : Array (Option Value)} {oc_law_call kV_law_call dc_law_call pm_law_call cd_law_call ct_law_call : Value} {f_law_told : Addr} {od_law_told an_law_told : Option Addr} {sl_law_told : Array (Option Value)} {oc_law_told kV_law_told dc_law_told pm_law_told cd_law_told ct_law_told : Value} {f_law : Addr} {od_law an_law : Option Addr} {sl_law : Array (Option Value)} {oc_law kV_law dc_law pm_law cd_law ct_law : Value} {f_File_init : Addr} {od_File_init an_File_init : Option Addr} {sl_File_init : Array (Option Value)} {oc_File_init kV_File_init dc_File_init pm_File_init cd_File_init ct_File_init : Value} {T_File_init : Addr} {ocT_File_init : Value} {odT_File_init : Option Addr} {nT_File_init : Nat} {slT_File_init : Array (Option Value)} {tk0_File_init : Tok} {f_File_cells : Addr} {od_File_cells an_File_cells : Option Addr} {sl_File_cells : Array (Option Value)} {oc_File_cells kV_File_cells dc_File_cells pm_File_cells cd_File_cells ct_File_cells : Value} {pr_File_cells : Addr} {rs_File_cells : List Value} {f_File_len : Addr} {od_File_len an_File_len : Option Addr} {sl_File_len : Array (Option Value)} {oc_File_len kV_File_len dc_File_len pm_File_len cd_File_len ct_File_len : Value} {f_File_iter : Addr} {od_File_iter an_File_iter : Option Addr} {sl_File_iter : Array (Option Value)} {oc_File_iter kV_File_iter dc_File_iter pm_File_iter cd_File_iter ct_File_iter : Value} {f_File_getitem : Addr} {od_File_getitem an_File_getitem : Option Addr} {sl_File_getitem : Array (Option Value)} {oc_File_getitem kV_File_getitem dc_File_getitem pm_File_getitem cd_File_getitem ct_File_getitem : Value} {f_File_eq : Addr} {od_File_eq an_File_eq : Option Addr} {sl_File_eq : Array (Option Value)} {oc_File_eq kV_File_eq dc_File_eq pm_File_eq cd_File_eq ct_File_eq : Value} {f_Full_eq : Addr} {od_Full_eq an_Full_eq : Option Addr} {sl_Full_eq : Array (Option Value)} {oc_Full_eq kV_Full_eq dc_Full_eq pm_Full_eq cd_Full_eq ct_Full_eq : Value} {f_Keep_init : Addr} {od_Keep_init an_Keep_init : Option Addr} {sl_Keep_init : Array (Option Value)} {oc_Keep_init kV_Keep_init dc_Keep_init pm_Keep_init cd_Keep_init ct_Keep_init : Value} {f_Keep_size : Addr} {od_Keep_size an_Keep_size : Option Addr} {sl_Keep_size : Array (Option Value)} {oc_Keep_size kV_Keep_size dc_Keep_size pm_Keep_size cd_Keep_size ct_Keep_size : Value} {pr_Keep_size : Addr} {rs_Keep_size : List Value} {f_Keep_eq : Addr} {od_Keep_eq an_Keep_eq : Option Addr} {sl_Keep_eq : Array (Option Value)} {oc_Keep_eq kV_Keep_eq dc_Keep_eq pm_Keep_eq cd_Keep_eq ct_Keep_eq : Value} {f_Lean_init : Addr} {od_Lean_init an_Lean_init : Option Addr} {sl_Lean_init : Array (Option Value)} {oc_Lean_init kV_Lean_init dc_Lean_init pm_Lean_init cd_Lean_init ct_Lean_init : Value} {f_Lean_size : Addr} {od_Lean_size an_Lean_size : Option Addr} {sl_Lean_size : Array (Option Value)} {oc_Lean_size kV_Lean_size dc_Lean_size pm_Lean_size cd_Lean_size ct_Lean_size : Value} {pr_Lean_size : Addr} {rs_Lean_size : List Value} {f_Lean_eq : Addr} {od_Lean_eq an_Lean_eq : Option Addr} {sl_Lean_eq : Array (Option Value)} {oc_Lean_eq kV_Lean_eq dc_Lean_eq pm_Lean_eq cd_Lean_eq ct_Lean_eq : Value} {f_Dig_init : Addr} {od_Dig_init an_Dig_init : Option Addr} {sl_Dig_init : Array (Option Value)} {oc_Dig_init kV_Dig_init dc_Dig_init pm_Dig_init cd_Dig_init ct_Dig_init : Value} {f_Dig_size : Addr} {od_Dig_size an_Dig_size : Option Addr} {sl_Dig_size : Array (Option Value)} {oc_Dig_size kV_Dig_size dc_Dig_size pm_Dig_size cd_Dig_size ct_Dig_size : Value} {pr_Dig_size : Addr} {rs_Dig_size : List Value} {f_Dig_eq : Addr} {od_Dig_eq an_Dig_eq : Option Addr} {sl_Dig_eq : Array (Option Value)} {oc_Dig_eq kV_Dig_eq dc_Dig_eq pm_Dig_eq cd_Dig_eq ct_Dig_eq : Value} {f_Script_init : Addr} {od_Script_init an_Script_init : Option Addr} {sl_Script_init : Array (Option Value)} {oc_Script_init kV_Script_init dc_Script_init pm_Script_init cd_Script_init ct_Script_init : Value} {T_Script_init : Addr} {ocT_Script_init : Value} {odT_Script_init : Option Addr} {nT_Script_init : Nat} {slT_Script_init : Array (Option Value)} {f_Script_period : Addr} {od_Script_period an_Script_period : Option Addr} {sl_Script_period : Array (Option Value)} {oc_Script_period kV_Script_period dc_Script_period pm_Script_period cd_Script_period ct_Script_period : Value} {pr_Script_period : Addr} {rs_Script_period : List Value} {f_Script_len : Addr} {od_Script_len an_Script_len : Option Addr} {sl_Script_len : Array (Option Value)} {oc_Script_len kV_Script_len dc_Script_len pm_Script_len cd_Script_len ct_Script_len : Value} {f_Script_iter : Addr} {od_Script_iter an_Script_iter : Option Addr} {sl_Script_iter : Array (Option Value)} {oc_Script_iter kV_Script_iter dc_Script_iter pm_Script_iter cd_Script_iter ct_Script_iter : Value} {f_Script_getitem : Addr} {od_Script_getitem an_Script_getitem : Option Addr} {sl_Script_getitem : Array (Option Value)} {oc_Script_getitem kV_Script_getitem dc_Script_getitem pm_Script_getitem cd_Script_getitem ct_Script_getitem : Value} {f_Script_eq : Addr} {od_Script_eq an_Script_eq : Option Addr} {sl_Script_eq : Array (Option Value)} {oc_Script_eq kV_Script_eq dc_Script_eq pm_Script_eq cd_Script_eq ct_Script_eq : Value} {f_Script_add : Addr} {od_Script_add an_Script_add : Option Addr} {sl_Script_add : Array (Option Value)} {oc_Script_add kV_Script_add dc_Script_add pm_Script_add cd_Script_add ct_Script_add : Value} {f_Script_mul : Addr} {od_Script_mul an_Script_mul : Option Addr} {sl_Script_mul : Array (Option Value)} {oc_Script_mul kV_Script_mul dc_Script_mul pm_Script_mul cd_Script_mul ct_Script_mul : Value} {f_Script_without : Addr} {od_Script_without an_Script_without : Option Addr} {sl_Script_without : Array (Option Value)} {oc_Script_without kV_Script_without dc_Script_without pm_Script_without cd_Script_without ct_Script_without : Value} {fo_Script_mul ro_Script_mul : Option Value} {C_InvalidFile : Addr} {C_HoleError : Addr} {nm_InvalidFile q_InvalidFile : Str} {NN_InvalidFile I_InvalidFile cda_InvalidFile cc_InvalidFile : Addr} {bs_InvalidFile : List Value} {sn_InvalidFile : List Str} {sub_InvalidFile : List Value} {ab_InvalidFile : Bool} {col_InvalidFile : Option Bool} {dd_InvalidFile : Option Addr} {m0_InvalidFile m1_InvalidFile m2_InvalidFile m3_InvalidFile m5_InvalidFile : Option Value} {od_InvalidFile an_InvalidFile cdd_InvalidFile cld_InvalidFile : Option Addr} {sl_InvalidFile ccs_InvalidFile csl_InvalidFile : Array (Option Value)} {oc_InvalidFile ocT_InvalidFile kV_InvalidFile dc_InvalidFile pm_InvalidFile ct_InvalidFile ccl_InvalidFile cl_InvalidFile : Value} {T_InvalidFile : Addr} {odT_InvalidFile : Option Addr} {nT_InvalidFile : Nat} {slT_InvalidFile : Array (Option Value)} {vs_InvalidFile : Array Value} {file_InvalidFile : Str} {tf_InvalidFile : Tok} {C_InvalidNumber : Addr} {nm_InvalidNumber q_InvalidNumber : Str} {NN_InvalidNumber I_InvalidNumber cda_InvalidNumber cc_InvalidNumber : Addr} {bs_InvalidNumber : List Value} {sn_InvalidNumber : List Str} {sub_InvalidNumber : List Value} {ab_InvalidNumber : Bool} {col_InvalidNumber : Option Bool} {dd_InvalidNumber : Option Addr} {m0_InvalidNumber m1_InvalidNumber m2_InvalidNumber m3_InvalidNumber m5_InvalidNumber : Option Value} {od_InvalidNumber an_InvalidNumber cdd_InvalidNumber cld_InvalidNumber : Option Addr} {sl_InvalidNumber ccs_InvalidNumber csl_InvalidNumber : Array (Option Value)} {oc_InvalidNumber ocT_InvalidNumber kV_InvalidNumber dc_InvalidNumber pm_InvalidNumber ct_InvalidNumber ccl_InvalidNumber cl_InvalidNumber : Value} {T_InvalidNumber : Addr} {odT_InvalidNumber : Option Addr} {nT_InvalidNumber : Nat} {slT_InvalidNumber : Array (Option Value)} {vs_InvalidNumber : Array Value} {file_InvalidNumber : Str} {tf_InvalidNumber : Tok} {C_InvalidScript : Addr} {nm_InvalidScript q_InvalidScript : Str} {NN_InvalidScript I_InvalidScript cda_InvalidScript cc_InvalidScript : Addr} {bs_InvalidScript : List Value} {sn_InvalidScript : List Str} {sub_InvalidScript : List Value} {ab_InvalidScript : Bool} {col_InvalidScript : Option Bool} {dd_InvalidScript : Option Addr} {m0_InvalidScript m1_InvalidScript m2_InvalidScript m3_InvalidScript m5_InvalidScript : Option Value} {od_InvalidScript an_InvalidScript cdd_InvalidScript cld_InvalidScript : Option Addr} {sl_InvalidScript ccs_InvalidScript csl_InvalidScript : Array (Option Value)} {oc_InvalidScript ocT_InvalidScript kV_InvalidScript dc_InvalidScript pm_InvalidScript ct_InvalidScript ccl_InvalidScript cl_InvalidScript : Value} {T_InvalidScript : Addr} {odT_InvalidScript : Option Addr} {nT_InvalidScript : Nat} {slT_InvalidScript : Array (Option Value)} {vs_InvalidScript : Array Value} {file_InvalidScript : Str} {tf_InvalidScript : Tok}
    (z_ValueError : PySem.W.nsIn K mainGlobals "ValueError" = some none)
    (z_bool : PySem.W.nsIn K mainGlobals "bool" = some none)
    (z_enumerate : PySem.W.nsIn K mainGlobals "enumerate" = some none)
    (z_int : PySem.W.nsIn K mainGlobals "int" = some none)
    (z_isinstance : PySem.W.nsIn K mainGlobals "isinstance" = some none)
    (z_iter : PySem.W.nsIn K mainGlobals "iter" = some none)
    (z_len : PySem.W.nsIn K mainGlobals "len" = some none)
    (z_list : PySem.W.nsIn K mainGlobals "list" = some none)
    (z_max : PySem.W.nsIn K mainGlobals "max" = some none)
    (z_property : PySem.W.nsIn K mainGlobals "property" = some none)
    (z_range : PySem.W.nsIn K mainGlobals "range" = some none)
    (z_set : PySem.W.nsIn K mainGlobals "set" = some none)
    (z_sorted : PySem.W.nsIn K mainGlobals "sorted" = some none)
    (z_str : PySem.W.nsIn K mainGlobals "str" = some none)
    (z_sum : PySem.W.nsIn K mainGlobals "sum" = some none)
    (z_super : PySem.W.nsIn K mainGlobals "super" = some none)
    (z_tuple : PySem.W.nsIn K mainGlobals "tuple" = some none)
    (g_SIGNS : PySem.W.nsIn K mainGlobals "SIGNS" = some (some (.str "abcdefghijklmnopqrstuvwxyz" tg_SIGNS)))
    (ac_File : PySem.W.nsIn K mainGlobals "File" = some (some (.ref C_File)))
    (ac_Step : PySem.W.nsIn K mainGlobals "Step" = some (some (.ref C_Step)))
    (ac_Full : PySem.W.nsIn K mainGlobals "Full" = some (some (.ref C_Full)))
    (ac_Keep : PySem.W.nsIn K mainGlobals "Keep" = some (some (.ref C_Keep)))
    (ac_Lean : PySem.W.nsIn K mainGlobals "Lean" = some (some (.ref C_Lean)))
    (ac_Dig : PySem.W.nsIn K mainGlobals "Dig" = some (some (.ref C_Dig)))
    (ac_Script : PySem.W.nsIn K mainGlobals "Script" = some (some (.ref C_Script)))
    (a_is_whole : PySem.W.nsIn K mainGlobals "is_whole" = some (some (.ref f_is_whole)))
    (l_is_whole : K.lookup f_is_whole = some ⟨oc_is_whole, od_is_whole, .func (PySem.W.fnOf "is_whole" "is_whole" (defArgs s_is_whole) (defBody s_is_whole) (defScope s_is_whole) .none kV_is_whole dc_is_whole pm_is_whole an_is_whole cd_is_whole ct_is_whole), sl_is_whole⟩)
    (c_is_whole : PySem.W.codeIn K cd_is_whole "is_whole" = true)
    (k_is_whole : PySem.W.keepIn K (.ref f_is_whole) = true)
    (a_check_least : PySem.W.nsIn K mainGlobals "check_least" = some (some (.ref f_check_least)))
    (l_check_least : K.lookup f_check_least = some ⟨oc_check_least, od_check_least, .func (PySem.W.fnOf "check_least" "check_least" (defArgs s_check_least) (defBody s_check_least) (defScope s_check_least) .none kV_check_least dc_check_least pm_check_least an_check_least cd_check_least ct_check_least), sl_check_least⟩)
    (c_check_least : PySem.W.codeIn K cd_check_least "check_least" = true)
    (k_check_least : PySem.W.keepIn K (.ref f_check_least) = true)
    (a_check_within : PySem.W.nsIn K mainGlobals "check_within" = some (some (.ref f_check_within)))
    (l_check_within : K.lookup f_check_within = some ⟨oc_check_within, od_check_within, .func (PySem.W.fnOf "check_within" "check_within" (defArgs s_check_within) (defBody s_check_within) (defScope s_check_within) .none kV_check_within dc_check_within pm_check_within an_check_within cd_check_within ct_check_within), sl_check_within⟩)
    (c_check_within : PySem.W.codeIn K cd_check_within "check_within" = true)
    (k_check_within : PySem.W.keepIn K (.ref f_check_within) = true)
    (a_divisor_of : PySem.W.nsIn K mainGlobals "divisor_of" = some (some (.ref f_divisor_of)))
    (l_divisor_of : K.lookup f_divisor_of = some ⟨oc_divisor_of, od_divisor_of, .func (PySem.W.fnOf "divisor_of" "divisor_of" (defArgs s_divisor_of) (defBody s_divisor_of) (defScope s_divisor_of) .none kV_divisor_of dc_divisor_of pm_divisor_of an_divisor_of cd_divisor_of ct_divisor_of), sl_divisor_of⟩)
    (c_divisor_of : PySem.W.codeIn K cd_divisor_of "divisor_of" = true)
    (k_divisor_of : PySem.W.keepIn K (.ref f_divisor_of) = true)
    (a_multiple_of : PySem.W.nsIn K mainGlobals "multiple_of" = some (some (.ref f_multiple_of)))
    (l_multiple_of : K.lookup f_multiple_of = some ⟨oc_multiple_of, od_multiple_of, .func (PySem.W.fnOf "multiple_of" "multiple_of" (defArgs s_multiple_of) (defBody s_multiple_of) (defScope s_multiple_of) .none kV_multiple_of dc_multiple_of pm_multiple_of an_multiple_of cd_multiple_of ct_multiple_of), sl_multiple_of⟩)
    (c_multiple_of : PySem.W.codeIn K cd_multiple_of "multiple_of" = true)
    (k_multiple_of : PySem.W.keepIn K (.ref f_multiple_of) = true)
    (a_are_cells : PySem.W.nsIn K mainGlobals "are_cells" = some (some (.ref f_are_cells)))
    (l_are_cells : K.lookup f_are_cells = some ⟨oc_are_cells, od_are_cells, .func (PySem.W.fnOf "are_cells" "are_cells" (defArgs s_are_cells) (defBody s_are_cells) (defScope s_are_cells) .none kV_are_cells dc_are_cells pm_are_cells an_are_cells cd_are_cells ct_are_cells), sl_are_cells⟩)
    (c_are_cells : PySem.W.codeIn K cd_are_cells "are_cells" = true)
    (k_are_cells : PySem.W.keepIn K (.ref f_are_cells) = true)
    (a_are_steps : PySem.W.nsIn K mainGlobals "are_steps" = some (some (.ref f_are_steps)))
    (l_are_steps : K.lookup f_are_steps = some ⟨oc_are_steps, od_are_steps, .func (PySem.W.fnOf "are_steps" "are_steps" (defArgs s_are_steps) (defBody s_are_steps) (defScope s_are_steps) .none kV_are_steps dc_are_steps pm_are_steps an_are_steps cd_are_steps ct_are_steps), sl_are_steps⟩)
    (c_are_steps : PySem.W.codeIn K cd_are_steps "are_steps" = true)
    (k_are_steps : PySem.W.keepIn K (.ref f_are_steps) = true)
    (a_check_script : PySem.W.nsIn K mainGlobals "check_script" = some (some (.ref f_check_script)))
    (l_check_script : K.lookup f_check_script = some ⟨oc_check_script, od_check_script, .func (PySem.W.fnOf "check_script" "check_script" (defArgs s_check_script) (defBody s_check_script) (defScope s_check_script) .none kV_check_script dc_check_script pm_check_script an_check_script cd_check_script ct_check_script), sl_check_script⟩)
    (c_check_script : PySem.W.codeIn K cd_check_script "check_script" = true)
    (k_check_script : PySem.W.keepIn K (.ref f_check_script) = true)
    (a_holds_in : PySem.W.nsIn K mainGlobals "holds_in" = some (some (.ref f_holds_in)))
    (l_holds_in : K.lookup f_holds_in = some ⟨oc_holds_in, od_holds_in, .func (PySem.W.fnOf "holds_in" "holds_in" (defArgs s_holds_in) (defBody s_holds_in) (defScope s_holds_in) .none kV_holds_in dc_holds_in pm_holds_in an_holds_in cd_holds_in ct_holds_in), sl_holds_in⟩)
    (c_holds_in : PySem.W.codeIn K cd_holds_in "holds_in" = true)
    (k_holds_in : PySem.W.keepIn K (.ref f_holds_in) = true)
    (a_is_held : PySem.W.nsIn K mainGlobals "is_held" = some (some (.ref f_is_held)))
    (l_is_held : K.lookup f_is_held = some ⟨oc_is_held, od_is_held, .func (PySem.W.fnOf "is_held" "is_held" (defArgs s_is_held) (defBody s_is_held) (defScope s_is_held) .none kV_is_held dc_is_held pm_is_held an_is_held cd_is_held ct_is_held), sl_is_held⟩)
    (c_is_held : PySem.W.codeIn K cd_is_held "is_held" = true)
    (k_is_held : PySem.W.keepIn K (.ref f_is_held) = true)
    (a_least_of : PySem.W.nsIn K mainGlobals "least_of" = some (some (.ref f_least_of)))
    (l_least_of : K.lookup f_least_of = some ⟨oc_least_of, od_least_of, .func (PySem.W.fnOf "least_of" "least_of" (defArgs s_least_of) (defBody s_least_of) (defScope s_least_of) .none kV_least_of dc_least_of pm_least_of an_least_of cd_least_of ct_least_of), sl_least_of⟩)
    (c_least_of : PySem.W.codeIn K cd_least_of "least_of" = true)
    (k_least_of : PySem.W.keepIn K (.ref f_least_of) = true)
    (a_dug : PySem.W.nsIn K mainGlobals "dug" = some (some (.ref f_dug)))
    (l_dug : K.lookup f_dug = some ⟨oc_dug, od_dug, .func (PySem.W.fnOf "dug" "dug" (defArgs s_dug) (defBody s_dug) (defScope s_dug) .none kV_dug dc_dug pm_dug an_dug cd_dug ct_dug), sl_dug⟩)
    (c_dug : PySem.W.codeIn K cd_dug "dug" = true)
    (k_dug : PySem.W.keepIn K (.ref f_dug) = true)
    (a_behind_step : PySem.W.nsIn K mainGlobals "behind_step" = some (some (.ref f_behind_step)))
    (l_behind_step : K.lookup f_behind_step = some ⟨oc_behind_step, od_behind_step, .func (PySem.W.fnOf "behind_step" "behind_step" (defArgs s_behind_step) (defBody s_behind_step) (defScope s_behind_step) .none kV_behind_step dc_behind_step pm_behind_step an_behind_step cd_behind_step ct_behind_step), sl_behind_step⟩)
    (c_behind_step : PySem.W.codeIn K cd_behind_step "behind_step" = true)
    (k_behind_step : PySem.W.keepIn K (.ref f_behind_step) = true)
    (a_reason_table : PySem.W.nsIn K mainGlobals "reason_table" = some (some (.ref f_reason_table)))
    (l_reason_table : K.lookup f_reason_table = some ⟨oc_reason_table, od_reason_table, .func (PySem.W.fnOf "reason_table" "reason_table" (defArgs s_reason_table) (defBody s_reason_table) (defScope s_reason_table) .none kV_reason_table dc_reason_table pm_reason_table an_reason_table cd_reason_table ct_reason_table), sl_reason_table⟩)
    (c_reason_table : PySem.W.codeIn K cd_reason_table "reason_table" = true)
    (k_reason_table : PySem.W.keepIn K (.ref f_reason_table) = true)
    (a_moved_table : PySem.W.nsIn K mainGlobals "moved_table" = some (some (.ref f_moved_table)))
    (l_moved_table : K.lookup f_moved_table = some ⟨oc_moved_table, od_moved_table, .func (PySem.W.fnOf "moved_table" "moved_table" (defArgs s_moved_table) (defBody s_moved_table) (defScope s_moved_table) .none kV_moved_table dc_moved_table pm_moved_table an_moved_table cd_moved_table ct_moved_table), sl_moved_table⟩)
    (c_moved_table : PySem.W.codeIn K cd_moved_table "moved_table" = true)
    (k_moved_table : PySem.W.keepIn K (.ref f_moved_table) = true)
    (a_put_down : PySem.W.nsIn K mainGlobals "put_down" = some (some (.ref f_put_down)))
    (l_put_down : K.lookup f_put_down = some ⟨oc_put_down, od_put_down, .func (PySem.W.fnOf "put_down" "put_down" (defArgs s_put_down) (defBody s_put_down) (defScope s_put_down) .none kV_put_down dc_put_down pm_put_down an_put_down cd_put_down ct_put_down), sl_put_down⟩)
    (c_put_down : PySem.W.codeIn K cd_put_down "put_down" = true)
    (k_put_down : PySem.W.keepIn K (.ref f_put_down) = true)
    (a_more_of : PySem.W.nsIn K mainGlobals "more_of" = some (some (.ref f_more_of)))
    (l_more_of : K.lookup f_more_of = some ⟨oc_more_of, od_more_of, .func (PySem.W.fnOf "more_of" "more_of" (defArgs s_more_of) (defBody s_more_of) (defScope s_more_of) .none kV_more_of dc_more_of pm_more_of an_more_of cd_more_of ct_more_of), sl_more_of⟩)
    (c_more_of : PySem.W.codeIn K cd_more_of "more_of" = true)
    (k_more_of : PySem.W.keepIn K (.ref f_more_of) = true)
    (a_check_two : PySem.W.nsIn K mainGlobals "check_two" = some (some (.ref f_check_two)))
    (l_check_two : K.lookup f_check_two = some ⟨oc_check_two, od_check_two, .func (PySem.W.fnOf "check_two" "check_two" (defArgs s_check_two) (defBody s_check_two) (defScope s_check_two) .none kV_check_two dc_check_two pm_check_two an_check_two cd_check_two ct_check_two), sl_check_two⟩)
    (c_check_two : PySem.W.codeIn K cd_check_two "check_two" = true)
    (k_check_two : PySem.W.keepIn K (.ref f_check_two) = true)
    (a_more_file : PySem.W.nsIn K mainGlobals "more_file" = some (some (.ref f_more_file)))
    (l_more_file : K.lookup f_more_file = some ⟨oc_more_file, od_more_file, .func (PySem.W.fnOf "more_file" "more_file" (defArgs s_more_file) (defBody s_more_file) (defScope s_more_file) .none kV_more_file dc_more_file pm_more_file an_more_file cd_more_file ct_more_file), sl_more_file⟩)
    (c_more_file : PySem.W.codeIn K cd_more_file "more_file" = true)
    (k_more_file : PySem.W.keepIn K (.ref f_more_file) = true)
    (a_never_more : PySem.W.nsIn K mainGlobals "never_more" = some (some (.ref f_never_more)))
    (l_never_more : K.lookup f_never_more = some ⟨oc_never_more, od_never_more, .func (PySem.W.fnOf "never_more" "never_more" (defArgs s_never_more) (defBody s_never_more) (defScope s_never_more) .none kV_never_more dc_never_more pm_never_more an_never_more cd_never_more ct_never_more), sl_never_more⟩)
    (c_never_more : PySem.W.codeIn K cd_never_more "never_more" = true)
    (k_never_more : PySem.W.keepIn K (.ref f_never_more) = true)
    (a_parting_of : PySem.W.nsIn K mainGlobals "parting_of" = some (some (.ref f_parting_of)))
    (l_parting_of : K.lookup f_parting_of = some ⟨oc_parting_of, od_parting_of, .func (PySem.W.fnOf "parting_of" "parting_of" (defArgs s_parting_of) (defBody s_parting_of) (defScope s_parting_of) .none kV_parting_of dc_parting_of pm_parting_of an_parting_of cd_parting_of ct_parting_of), sl_parting_of⟩)
    (c_parting_of : PySem.W.codeIn K cd_parting_of "parting_of" = true)
    (k_parting_of : PySem.W.keepIn K (.ref f_parting_of) = true)
    (a_parting : PySem.W.nsIn K mainGlobals "parting" = some (some (.ref f_parting)))
    (l_parting : K.lookup f_parting = some ⟨oc_parting, od_parting, .func (PySem.W.fnOf "parting" "parting" (defArgs s_parting) (defBody s_parting) (defScope s_parting) .none kV_parting dc_parting pm_parting an_parting cd_parting ct_parting), sl_parting⟩)
    (c_parting : PySem.W.codeIn K cd_parting "parting" = true)
    (k_parting : PySem.W.keepIn K (.ref f_parting) = true)
    (a_alike : PySem.W.nsIn K mainGlobals "alike" = some (some (.ref f_alike)))
    (l_alike : K.lookup f_alike = some ⟨oc_alike, od_alike, .func (PySem.W.fnOf "alike" "alike" (defArgs s_alike) (defBody s_alike) (defScope s_alike) .none kV_alike dc_alike pm_alike an_alike cd_alike ct_alike), sl_alike⟩)
    (c_alike : PySem.W.codeIn K cd_alike "alike" = true)
    (k_alike : PySem.W.keepIn K (.ref f_alike) = true)
    (a_exchangeable : PySem.W.nsIn K mainGlobals "exchangeable" = some (some (.ref f_exchangeable)))
    (l_exchangeable : K.lookup f_exchangeable = some ⟨oc_exchangeable, od_exchangeable, .func (PySem.W.fnOf "exchangeable" "exchangeable" (defArgs s_exchangeable) (defBody s_exchangeable) (defScope s_exchangeable) .none kV_exchangeable dc_exchangeable pm_exchangeable an_exchangeable cd_exchangeable ct_exchangeable), sl_exchangeable⟩)
    (c_exchangeable : PySem.W.codeIn K cd_exchangeable "exchangeable" = true)
    (k_exchangeable : PySem.W.keepIn K (.ref f_exchangeable) = true)
    (a_needless : PySem.W.nsIn K mainGlobals "needless" = some (some (.ref f_needless)))
    (l_needless : K.lookup f_needless = some ⟨oc_needless, od_needless, .func (PySem.W.fnOf "needless" "needless" (defArgs s_needless) (defBody s_needless) (defScope s_needless) .none kV_needless dc_needless pm_needless an_needless cd_needless ct_needless), sl_needless⟩)
    (c_needless : PySem.W.codeIn K cd_needless "needless" = true)
    (k_needless : PySem.W.keepIn K (.ref f_needless) = true)
    (a_keeps_holes : PySem.W.nsIn K mainGlobals "keeps_holes" = some (some (.ref f_keeps_holes)))
    (l_keeps_holes : K.lookup f_keeps_holes = some ⟨oc_keeps_holes, od_keeps_holes, .func (PySem.W.fnOf "keeps_holes" "keeps_holes" (defArgs s_keeps_holes) (defBody s_keeps_holes) (defScope s_keeps_holes) .none kV_keeps_holes dc_keeps_holes pm_keeps_holes an_keeps_holes cd_keeps_holes ct_keeps_holes), sl_keeps_holes⟩)
    (c_keeps_holes : PySem.W.codeIn K cd_keeps_holes "keeps_holes" = true)
    (k_keeps_holes : PySem.W.keepIn K (.ref f_keeps_holes) = true)
    (a_keeps_written : PySem.W.nsIn K mainGlobals "keeps_written" = some (some (.ref f_keeps_written)))
    (l_keeps_written : K.lookup f_keeps_written = some ⟨oc_keeps_written, od_keeps_written, .func (PySem.W.fnOf "keeps_written" "keeps_written" (defArgs s_keeps_written) (defBody s_keeps_written) (defScope s_keeps_written) .none kV_keeps_written dc_keeps_written pm_keeps_written an_keeps_written cd_keeps_written ct_keeps_written), sl_keeps_written⟩)
    (c_keeps_written : PySem.W.codeIn K cd_keeps_written "keeps_written" = true)
    (k_keeps_written : PySem.W.keepIn K (.ref f_keeps_written) = true)
    (a_law_purse : PySem.W.nsIn K mainGlobals "_law_purse" = some (some (.ref f_law_purse)))
    (l_law_purse : K.lookup f_law_purse = some ⟨oc_law_purse, od_law_purse, .func (PySem.W.fnOf "_law_purse" "_law_purse" (defArgs s_law_purse) (defBody s_law_purse) (defScope s_law_purse) .none kV_law_purse dc_law_purse pm_law_purse an_law_purse cd_law_purse ct_law_purse), sl_law_purse⟩)
    (c_law_purse : PySem.W.codeIn K cd_law_purse "_law_purse" = true)
    (k_law_purse : PySem.W.keepIn K (.ref f_law_purse) = true)
    (a_law_draw : PySem.W.nsIn K mainGlobals "_law_draw" = some (some (.ref f_law_draw)))
    (l_law_draw : K.lookup f_law_draw = some ⟨oc_law_draw, od_law_draw, .func (PySem.W.fnOf "_law_draw" "_law_draw" (defArgs s_law_draw) (defBody s_law_draw) (defScope s_law_draw) .none kV_law_draw dc_law_draw pm_law_draw an_law_draw cd_law_draw ct_law_draw), sl_law_draw⟩)
    (c_law_draw : PySem.W.codeIn K cd_law_draw "_law_draw" = true)
    (k_law_draw : PySem.W.keepIn K (.ref f_law_draw) = true)
    (a_law_steps : PySem.W.nsIn K mainGlobals "_law_steps" = some (some (.ref f_law_steps)))
    (l_law_steps : K.lookup f_law_steps = some ⟨oc_law_steps, od_law_steps, .func (PySem.W.fnOf "_law_steps" "_law_steps" (defArgs s_law_steps) (defBody s_law_steps) (defScope s_law_steps) .none kV_law_steps dc_law_steps pm_law_steps an_law_steps cd_law_steps ct_law_steps), sl_law_steps⟩)
    (c_law_steps : PySem.W.codeIn K cd_law_steps "_law_steps" = true)
    (k_law_steps : PySem.W.keepIn K (.ref f_law_steps) = true)
    (a_law_step : PySem.W.nsIn K mainGlobals "_law_step" = some (some (.ref f_law_step)))
    (l_law_step : K.lookup f_law_step = some ⟨oc_law_step, od_law_step, .func (PySem.W.fnOf "_law_step" "_law_step" (defArgs s_law_step) (defBody s_law_step) (defScope s_law_step) .none kV_law_step dc_law_step pm_law_step an_law_step cd_law_step ct_law_step), sl_law_step⟩)
    (c_law_step : PySem.W.codeIn K cd_law_step "_law_step" = true)
    (k_law_step : PySem.W.keepIn K (.ref f_law_step) = true)
    (a_law_script : PySem.W.nsIn K mainGlobals "_law_script" = some (some (.ref f_law_script)))
    (l_law_script : K.lookup f_law_script = some ⟨oc_law_script, od_law_script, .func (PySem.W.fnOf "_law_script" "_law_script" (defArgs s_law_script) (defBody s_law_script) (defScope s_law_script) .none kV_law_script dc_law_script pm_law_script an_law_script cd_law_script ct_law_script), sl_law_script⟩)
    (c_law_script : PySem.W.codeIn K cd_law_script "_law_script" = true)
    (k_law_script : PySem.W.keepIn K (.ref f_law_script) = true)
    (a_law_call : PySem.W.nsIn K mainGlobals "_law_call" = some (some (.ref f_law_call)))
    (l_law_call : K.lookup f_law_call = some ⟨oc_law_call, od_law_call, .func (PySem.W.fnOf "_law_call" "_law_call" (defArgs s_law_call) (defBody s_law_call) (defScope s_law_call) .none kV_law_call dc_law_call pm_law_call an_law_call cd_law_call ct_law_call), sl_law_call⟩)
    (c_law_call : PySem.W.codeIn K cd_law_call "_law_call" = true)
    (k_law_call : PySem.W.keepIn K (.ref f_law_call) = true)
    (a_law_told : PySem.W.nsIn K mainGlobals "_law_told" = some (some (.ref f_law_told)))
    (l_law_told : K.lookup f_law_told = some ⟨oc_law_told, od_law_told, .func (PySem.W.fnOf "_law_told" "_law_told" (defArgs s_law_told) (defBody s_law_told) (defScope s_law_told) .none kV_law_told dc_law_told pm_law_told an_law_told cd_law_told ct_law_told), sl_law_told⟩)
    (c_law_told : PySem.W.codeIn K cd_law_told "_law_told" = true)
    (k_law_told : PySem.W.keepIn K (.ref f_law_told) = true)
    (a_law : PySem.W.nsIn K mainGlobals "law" = some (some (.ref f_law)))
    (l_law : K.lookup f_law = some ⟨oc_law, od_law, .func (PySem.W.fnOf "law" "law" (defArgs s_law) (defBody s_law) (defScope s_law) .none kV_law dc_law pm_law an_law cd_law ct_law), sl_law⟩)
    (c_law : PySem.W.codeIn K cd_law "law" = true)
    (k_law : PySem.W.keepIn K (.ref f_law) = true)
    (a_File_init : PySem.W.findIn K (.ref C_File) "__init__" = some (some (.ref f_File_init)))
    (i_File_init : PySem.W.isFn K (.ref f_File_init) = true)
    (l_File_init : K.lookup f_File_init = some ⟨oc_File_init, od_File_init, .func (PySem.W.fnOf "__init__" "File.__init__" (defArgs s_File_init) (defBody s_File_init) (defScope s_File_init) (.ref T_File_init) kV_File_init dc_File_init pm_File_init an_File_init cd_File_init ct_File_init), sl_File_init⟩)
    (c_File_init : PySem.W.codeIn K cd_File_init "File.__init__" = true)
    (k_File_init : PySem.W.keepIn K (.ref f_File_init) = true)
    (ld_File_init : K.lookup T_File_init = some ⟨ocT_File_init, odT_File_init, .seq #[(.str "" tk0_File_init)] nT_File_init, slT_File_init⟩)
    (pa_File_cells : PySem.W.findIn K (.ref C_File) "cells" = some (some (.ref pr_File_cells)))
    (pb_File_cells : PySem.W.specialIn K (.ref pr_File_cells) "__get__" = some (some (.builtin "property.__get__")))
    (pc_File_cells : PySem.W.takesIn K (.ref pr_File_cells) = some true)
    (pd_File_cells : PySem.W.recIn K pr_File_cells "property" = some (.ref f_File_cells :: rs_File_cells))
    (l_File_cells : K.lookup f_File_cells = some ⟨oc_File_cells, od_File_cells, .func (PySem.W.fnOf "cells" "File.cells" (defArgs s_File_cells) (defBody s_File_cells) (defScope s_File_cells) .none kV_File_cells dc_File_cells pm_File_cells an_File_cells cd_File_cells ct_File_cells), sl_File_cells⟩)
    (c_File_cells : PySem.W.codeIn K cd_File_cells "File.cells" = true)
    (k_File_cells : PySem.W.keepIn K (.ref f_File_cells) = true)
    (a_File_len : PySem.W.findIn K (.ref C_File) "__len__" = some (some (.ref f_File_len)))
    (i_File_len : PySem.W.isFn K (.ref f_File_len) = true)
    (l_File_len : K.lookup f_File_len = some ⟨oc_File_len, od_File_len, .func (PySem.W.fnOf "__len__" "File.__len__" (defArgs s_File_len) (defBody s_File_len) (defScope s_File_len) .none kV_File_len dc_File_len pm_File_len an_File_len cd_File_len ct_File_len), sl_File_len⟩)
    (c_File_len : PySem.W.codeIn K cd_File_len "File.__len__" = true)
    (k_File_len : PySem.W.keepIn K (.ref f_File_len) = true)
    (a_File_iter : PySem.W.findIn K (.ref C_File) "__iter__" = some (some (.ref f_File_iter)))
    (i_File_iter : PySem.W.isFn K (.ref f_File_iter) = true)
    (l_File_iter : K.lookup f_File_iter = some ⟨oc_File_iter, od_File_iter, .func (PySem.W.fnOf "__iter__" "File.__iter__" (defArgs s_File_iter) (defBody s_File_iter) (defScope s_File_iter) .none kV_File_iter dc_File_iter pm_File_iter an_File_iter cd_File_iter ct_File_iter), sl_File_iter⟩)
    (c_File_iter : PySem.W.codeIn K cd_File_iter "File.__iter__" = true)
    (k_File_iter : PySem.W.keepIn K (.ref f_File_iter) = true)
    (a_File_getitem : PySem.W.findIn K (.ref C_File) "__getitem__" = some (some (.ref f_File_getitem)))
    (i_File_getitem : PySem.W.isFn K (.ref f_File_getitem) = true)
    (l_File_getitem : K.lookup f_File_getitem = some ⟨oc_File_getitem, od_File_getitem, .func (PySem.W.fnOf "__getitem__" "File.__getitem__" (defArgs s_File_getitem) (defBody s_File_getitem) (defScope s_File_getitem) .none kV_File_getitem dc_File_getitem pm_File_getitem an_File_getitem cd_File_getitem ct_File_getitem), sl_File_getitem⟩)
    (c_File_getitem : PySem.W.codeIn K cd_File_getitem "File.__getitem__" = true)
    (k_File_getitem : PySem.W.keepIn K (.ref f_File_getitem) = true)
    (a_File_eq : PySem.W.findIn K (.ref C_File) "__eq__" = some (some (.ref f_File_eq)))
    (i_File_eq : PySem.W.isFn K (.ref f_File_eq) = true)
    (l_File_eq : K.lookup f_File_eq = some ⟨oc_File_eq, od_File_eq, .func (PySem.W.fnOf "__eq__" "File.__eq__" (defArgs s_File_eq) (defBody s_File_eq) (defScope s_File_eq) .none kV_File_eq dc_File_eq pm_File_eq an_File_eq cd_File_eq ct_File_eq), sl_File_eq⟩)
    (c_File_eq : PySem.W.codeIn K cd_File_eq "File.__eq__" = true)
    (k_File_eq : PySem.W.keepIn K (.ref f_File_eq) = true)
    (a_Full_eq : PySem.W.findIn K (.ref C_Full) "__eq__" = some (some (.ref f_Full_eq)))
    (i_Full_eq : PySem.W.isFn K (.ref f_Full_eq) = true)
    (l_Full_eq : K.lookup f_Full_eq = some ⟨oc_Full_eq, od_Full_eq, .func (PySem.W.fnOf "__eq__" "Full.__eq__" (defArgs s_Full_eq) (defBody s_Full_eq) (defScope s_Full_eq) .none kV_Full_eq dc_Full_eq pm_Full_eq an_Full_eq cd_Full_eq ct_Full_eq), sl_Full_eq⟩)
    (c_Full_eq : PySem.W.codeIn K cd_Full_eq "Full.__eq__" = true)
    (k_Full_eq : PySem.W.keepIn K (.ref f_Full_eq) = true)
    (a_Keep_init : PySem.W.findIn K (.ref C_Keep) "__init__" = some (some (.ref f_Keep_init)))
    (i_Keep_init : PySem.W.isFn K (.ref f_Keep_init) = true)
    (l_Keep_init : K.lookup f_Keep_init = some ⟨oc_Keep_init, od_Keep_init, .func (PySem.W.fnOf "__init__" "Keep.__init__" (defArgs s_Keep_init) (defBody s_Keep_init) (defScope s_Keep_init) .none kV_Keep_init dc_Keep_init pm_Keep_init an_Keep_init cd_Keep_init ct_Keep_init), sl_Keep_init⟩)
    (c_Keep_init : PySem.W.codeIn K cd_Keep_init "Keep.__init__" = true)
    (k_Keep_init : PySem.W.keepIn K (.ref f_Keep_init) = true)
    (pa_Keep_size : PySem.W.findIn K (.ref C_Keep) "size" = some (some (.ref pr_Keep_size)))
    (pb_Keep_size : PySem.W.specialIn K (.ref pr_Keep_size) "__get__" = some (some (.builtin "property.__get__")))
    (pc_Keep_size : PySem.W.takesIn K (.ref pr_Keep_size) = some true)
    (pd_Keep_size : PySem.W.recIn K pr_Keep_size "property" = some (.ref f_Keep_size :: rs_Keep_size))
    (l_Keep_size : K.lookup f_Keep_size = some ⟨oc_Keep_size, od_Keep_size, .func (PySem.W.fnOf "size" "Keep.size" (defArgs s_Keep_size) (defBody s_Keep_size) (defScope s_Keep_size) .none kV_Keep_size dc_Keep_size pm_Keep_size an_Keep_size cd_Keep_size ct_Keep_size), sl_Keep_size⟩)
    (c_Keep_size : PySem.W.codeIn K cd_Keep_size "Keep.size" = true)
    (k_Keep_size : PySem.W.keepIn K (.ref f_Keep_size) = true)
    (a_Keep_eq : PySem.W.findIn K (.ref C_Keep) "__eq__" = some (some (.ref f_Keep_eq)))
    (i_Keep_eq : PySem.W.isFn K (.ref f_Keep_eq) = true)
    (l_Keep_eq : K.lookup f_Keep_eq = some ⟨oc_Keep_eq, od_Keep_eq, .func (PySem.W.fnOf "__eq__" "Keep.__eq__" (defArgs s_Keep_eq) (defBody s_Keep_eq) (defScope s_Keep_eq) .none kV_Keep_eq dc_Keep_eq pm_Keep_eq an_Keep_eq cd_Keep_eq ct_Keep_eq), sl_Keep_eq⟩)
    (c_Keep_eq : PySem.W.codeIn K cd_Keep_eq "Keep.__eq__" = true)
    (k_Keep_eq : PySem.W.keepIn K (.ref f_Keep_eq) = true)
    (a_Lean_init : PySem.W.findIn K (.ref C_Lean) "__init__" = some (some (.ref f_Lean_init)))
    (i_Lean_init : PySem.W.isFn K (.ref f_Lean_init) = true)
    (l_Lean_init : K.lookup f_Lean_init = some ⟨oc_Lean_init, od_Lean_init, .func (PySem.W.fnOf "__init__" "Lean.__init__" (defArgs s_Lean_init) (defBody s_Lean_init) (defScope s_Lean_init) .none kV_Lean_init dc_Lean_init pm_Lean_init an_Lean_init cd_Lean_init ct_Lean_init), sl_Lean_init⟩)
    (c_Lean_init : PySem.W.codeIn K cd_Lean_init "Lean.__init__" = true)
    (k_Lean_init : PySem.W.keepIn K (.ref f_Lean_init) = true)
    (pa_Lean_size : PySem.W.findIn K (.ref C_Lean) "size" = some (some (.ref pr_Lean_size)))
    (pb_Lean_size : PySem.W.specialIn K (.ref pr_Lean_size) "__get__" = some (some (.builtin "property.__get__")))
    (pc_Lean_size : PySem.W.takesIn K (.ref pr_Lean_size) = some true)
    (pd_Lean_size : PySem.W.recIn K pr_Lean_size "property" = some (.ref f_Lean_size :: rs_Lean_size))
    (l_Lean_size : K.lookup f_Lean_size = some ⟨oc_Lean_size, od_Lean_size, .func (PySem.W.fnOf "size" "Lean.size" (defArgs s_Lean_size) (defBody s_Lean_size) (defScope s_Lean_size) .none kV_Lean_size dc_Lean_size pm_Lean_size an_Lean_size cd_Lean_size ct_Lean_size), sl_Lean_size⟩)
    (c_Lean_size : PySem.W.codeIn K cd_Lean_size "Lean.size" = true)
    (k_Lean_size : PySem.W.keepIn K (.ref f_Lean_size) = true)
    (a_Lean_eq : PySem.W.findIn K (.ref C_Lean) "__eq__" = some (some (.ref f_Lean_eq)))
    (i_Lean_eq : PySem.W.isFn K (.ref f_Lean_eq) = true)
    (l_Lean_eq : K.lookup f_Lean_eq = some ⟨oc_Lean_eq, od_Lean_eq, .func (PySem.W.fnOf "__eq__" "Lean.__eq__" (defArgs s_Lean_eq) (defBody s_Lean_eq) (defScope s_Lean_eq) .none kV_Lean_eq dc_Lean_eq pm_Lean_eq an_Lean_eq cd_Lean_eq ct_Lean_eq), sl_Lean_eq⟩)
    (c_Lean_eq : PySem.W.codeIn K cd_Lean_eq "Lean.__eq__" = true)
    (k_Lean_eq : PySem.W.keepIn K (.ref f_Lean_eq) = true)
    (a_Dig_init : PySem.W.findIn K (.ref C_Dig) "__init__" = some (some (.ref f_Dig_init)))
    (i_Dig_init : PySem.W.isFn K (.ref f_Dig_init) = true)
    (l_Dig_init : K.lookup f_Dig_init = some ⟨oc_Dig_init, od_Dig_init, .func (PySem.W.fnOf "__init__" "Dig.__init__" (defArgs s_Dig_init) (defBody s_Dig_init) (defScope s_Dig_init) .none kV_Dig_init dc_Dig_init pm_Dig_init an_Dig_init cd_Dig_init ct_Dig_init), sl_Dig_init⟩)
    (c_Dig_init : PySem.W.codeIn K cd_Dig_init "Dig.__init__" = true)
    (k_Dig_init : PySem.W.keepIn K (.ref f_Dig_init) = true)
    (pa_Dig_size : PySem.W.findIn K (.ref C_Dig) "size" = some (some (.ref pr_Dig_size)))
    (pb_Dig_size : PySem.W.specialIn K (.ref pr_Dig_size) "__get__" = some (some (.builtin "property.__get__")))
    (pc_Dig_size : PySem.W.takesIn K (.ref pr_Dig_size) = some true)
    (pd_Dig_size : PySem.W.recIn K pr_Dig_size "property" = some (.ref f_Dig_size :: rs_Dig_size))
    (l_Dig_size : K.lookup f_Dig_size = some ⟨oc_Dig_size, od_Dig_size, .func (PySem.W.fnOf "size" "Dig.size" (defArgs s_Dig_size) (defBody s_Dig_size) (defScope s_Dig_size) .none kV_Dig_size dc_Dig_size pm_Dig_size an_Dig_size cd_Dig_size ct_Dig_size), sl_Dig_size⟩)
    (c_Dig_size : PySem.W.codeIn K cd_Dig_size "Dig.size" = true)
    (k_Dig_size : PySem.W.keepIn K (.ref f_Dig_size) = true)
    (a_Dig_eq : PySem.W.findIn K (.ref C_Dig) "__eq__" = some (some (.ref f_Dig_eq)))
    (i_Dig_eq : PySem.W.isFn K (.ref f_Dig_eq) = true)
    (l_Dig_eq : K.lookup f_Dig_eq = some ⟨oc_Dig_eq, od_Dig_eq, .func (PySem.W.fnOf "__eq__" "Dig.__eq__" (defArgs s_Dig_eq) (defBody s_Dig_eq) (defScope s_Dig_eq) .none kV_Dig_eq dc_Dig_eq pm_Dig_eq an_Dig_eq cd_Dig_eq ct_Dig_eq), sl_Dig_eq⟩)
    (c_Dig_eq : PySem.W.codeIn K cd_Dig_eq "Dig.__eq__" = true)
    (k_Dig_eq : PySem.W.keepIn K (.ref f_Dig_eq) = true)
    (a_Script_init : PySem.W.findIn K (.ref C_Script) "__init__" = some (some (.ref f_Script_init)))
    (i_Script_init : PySem.W.isFn K (.ref f_Script_init) = true)
    (l_Script_init : K.lookup f_Script_init = some ⟨oc_Script_init, od_Script_init, .func (PySem.W.fnOf "__init__" "Script.__init__" (defArgs s_Script_init) (defBody s_Script_init) (defScope s_Script_init) (.ref T_Script_init) kV_Script_init dc_Script_init pm_Script_init an_Script_init cd_Script_init ct_Script_init), sl_Script_init⟩)
    (c_Script_init : PySem.W.codeIn K cd_Script_init "Script.__init__" = true)
    (k_Script_init : PySem.W.keepIn K (.ref f_Script_init) = true)
    (ld_Script_init : K.lookup T_Script_init = some ⟨ocT_Script_init, odT_Script_init, .seq #[.none] nT_Script_init, slT_Script_init⟩)
    (pa_Script_period : PySem.W.findIn K (.ref C_Script) "period" = some (some (.ref pr_Script_period)))
    (pb_Script_period : PySem.W.specialIn K (.ref pr_Script_period) "__get__" = some (some (.builtin "property.__get__")))
    (pc_Script_period : PySem.W.takesIn K (.ref pr_Script_period) = some true)
    (pd_Script_period : PySem.W.recIn K pr_Script_period "property" = some (.ref f_Script_period :: rs_Script_period))
    (l_Script_period : K.lookup f_Script_period = some ⟨oc_Script_period, od_Script_period, .func (PySem.W.fnOf "period" "Script.period" (defArgs s_Script_period) (defBody s_Script_period) (defScope s_Script_period) .none kV_Script_period dc_Script_period pm_Script_period an_Script_period cd_Script_period ct_Script_period), sl_Script_period⟩)
    (c_Script_period : PySem.W.codeIn K cd_Script_period "Script.period" = true)
    (k_Script_period : PySem.W.keepIn K (.ref f_Script_period) = true)
    (a_Script_len : PySem.W.findIn K (.ref C_Script) "__len__" = some (some (.ref f_Script_len)))
    (i_Script_len : PySem.W.isFn K (.ref f_Script_len) = true)
    (l_Script_len : K.lookup f_Script_len = some ⟨oc_Script_len, od_Script_len, .func (PySem.W.fnOf "__len__" "Script.__len__" (defArgs s_Script_len) (defBody s_Script_len) (defScope s_Script_len) .none kV_Script_len dc_Script_len pm_Script_len an_Script_len cd_Script_len ct_Script_len), sl_Script_len⟩)
    (c_Script_len : PySem.W.codeIn K cd_Script_len "Script.__len__" = true)
    (k_Script_len : PySem.W.keepIn K (.ref f_Script_len) = true)
    (a_Script_iter : PySem.W.findIn K (.ref C_Script) "__iter__" = some (some (.ref f_Script_iter)))
    (i_Script_iter : PySem.W.isFn K (.ref f_Script_iter) = true)
    (l_Script_iter : K.lookup f_Script_iter = some ⟨oc_Script_iter, od_Script_iter, .func (PySem.W.fnOf "__iter__" "Script.__iter__" (defArgs s_Script_iter) (defBody s_Script_iter) (defScope s_Script_iter) .none kV_Script_iter dc_Script_iter pm_Script_iter an_Script_iter cd_Script_iter ct_Script_iter), sl_Script_iter⟩)
    (c_Script_iter : PySem.W.codeIn K cd_Script_iter "Script.__iter__" = true)
    (k_Script_iter : PySem.W.keepIn K (.ref f_Script_iter) = true)
    (a_Script_getitem : PySem.W.findIn K (.ref C_Script) "__getitem__" = some (some (.ref f_Script_getitem)))
    (i_Script_getitem : PySem.W.isFn K (.ref f_Script_getitem) = true)
    (l_Script_getitem : K.lookup f_Script_getitem = some ⟨oc_Script_getitem, od_Script_getitem, .func (PySem.W.fnOf "__getitem__" "Script.__getitem__" (defArgs s_Script_getitem) (defBody s_Script_getitem) (defScope s_Script_getitem) .none kV_Script_getitem dc_Script_getitem pm_Script_getitem an_Script_getitem cd_Script_getitem ct_Script_getitem), sl_Script_getitem⟩)
    (c_Script_getitem : PySem.W.codeIn K cd_Script_getitem "Script.__getitem__" = true)
    (k_Script_getitem : PySem.W.keepIn K (.ref f_Script_getitem) = true)
    (a_Script_eq : PySem.W.findIn K (.ref C_Script) "__eq__" = some (some (.ref f_Script_eq)))
    (i_Script_eq : PySem.W.isFn K (.ref f_Script_eq) = true)
    (l_Script_eq : K.lookup f_Script_eq = some ⟨oc_Script_eq, od_Script_eq, .func (PySem.W.fnOf "__eq__" "Script.__eq__" (defArgs s_Script_eq) (defBody s_Script_eq) (defScope s_Script_eq) .none kV_Script_eq dc_Script_eq pm_Script_eq an_Script_eq cd_Script_eq ct_Script_eq), sl_Script_eq⟩)
    (c_Script_eq : PySem.W.codeIn K cd_Script_eq "Script.__eq__" = true)
    (k_Script_eq : PySem.W.keepIn K (.ref f_Script_eq) = true)
    (a_Script_add : PySem.W.findIn K (.ref C_Script) "__add__" = some (some (.ref f_Script_add)))
    (i_Script_add : PySem.W.isFn K (.ref f_Script_add) = true)
    (l_Script_add : K.lookup f_Script_add = some ⟨oc_Script_add, od_Script_add, .func (PySem.W.fnOf "__add__" "Script.__add__" (defArgs s_Script_add) (defBody s_Script_add) (defScope s_Script_add) .none kV_Script_add dc_Script_add pm_Script_add an_Script_add cd_Script_add ct_Script_add), sl_Script_add⟩)
    (c_Script_add : PySem.W.codeIn K cd_Script_add "Script.__add__" = true)
    (k_Script_add : PySem.W.keepIn K (.ref f_Script_add) = true)
    (a_Script_mul : PySem.W.findIn K (.ref C_Script) "__mul__" = some (some (.ref f_Script_mul)))
    (i_Script_mul : PySem.W.isFn K (.ref f_Script_mul) = true)
    (l_Script_mul : K.lookup f_Script_mul = some ⟨oc_Script_mul, od_Script_mul, .func (PySem.W.fnOf "__mul__" "Script.__mul__" (defArgs s_Script_mul) (defBody s_Script_mul) (defScope s_Script_mul) .none kV_Script_mul dc_Script_mul pm_Script_mul an_Script_mul cd_Script_mul ct_Script_mul), sl_Script_mul⟩)
    (c_Script_mul : PySem.W.codeIn K cd_Script_mul "Script.__mul__" = true)
    (k_Script_mul : PySem.W.keepIn K (.ref f_Script_mul) = true)
    (a_Script_without : PySem.W.findIn K (.ref C_Script) "without" = some (some (.ref f_Script_without)))
    (i_Script_without : PySem.W.isFn K (.ref f_Script_without) = true)
    (l_Script_without : K.lookup f_Script_without = some ⟨oc_Script_without, od_Script_without, .func (PySem.W.fnOf "without" "Script.without" (defArgs s_Script_without) (defBody s_Script_without) (defScope s_Script_without) .none kV_Script_without dc_Script_without pm_Script_without an_Script_without cd_Script_without ct_Script_without), sl_Script_without⟩)
    (c_Script_without : PySem.W.codeIn K cd_Script_without "Script.without" = true)
    (k_Script_without : PySem.W.keepIn K (.ref f_Script_without) = true)
    (ohn : PySem.W.specialIn K (.builtin "object.__class__") "__get__" = some (some (.builtin "getset_descriptor.__get__")))
    (otk : PySem.W.takesIn K (.builtin "object.__class__") = some true)
    (pg_File : PySem.W.plainGet K C_File Str.empty = true)
    (hd_File : PySem.W.hasDictIn K C_File = true)
    (po_File : PySem.W.plainOver K C_File = true)
    (sa_File : PySem.W.findIn K (.ref C_File) "__setattr__" = some (some (.builtin "object.__setattr__")))
    (ha_File : PySem.W.findIn K (.ref C_File) "__class__" = some (some (.builtin "object.__class__")))
    (mr_File : PySem.W.mroIn K C_File (.type "object") = some true)
    (ms_File : PySem.W.mroIn K C_File (.ref C_File) = some true)
    (mk_File : PySem.W.makesIn K C_File = true)
    (kc_File : PySem.W.keepIn K (.ref C_File) = true)
    (na_File_row : PySem.W.findIn K (.ref C_File) "row" = some none)
    (pg_Step : PySem.W.plainGet K C_Step Str.empty = true)
    (hd_Step : PySem.W.hasDictIn K C_Step = true)
    (po_Step : PySem.W.plainOver K C_Step = true)
    (sa_Step : PySem.W.findIn K (.ref C_Step) "__setattr__" = some (some (.builtin "object.__setattr__")))
    (ha_Step : PySem.W.findIn K (.ref C_Step) "__class__" = some (some (.builtin "object.__class__")))
    (mr_Step : PySem.W.mroIn K C_Step (.type "object") = some true)
    (ms_Step : PySem.W.mroIn K C_Step (.ref C_Step) = some true)
    (mk_Step : PySem.W.makesIn K C_Step = true)
    (kc_Step : PySem.W.keepIn K (.ref C_Step) = true)
    (ii_Step : PySem.W.findIn K (.ref C_Step) "__init__" = some (some (.builtin "object.__init__")))
    (pg_Full : PySem.W.plainGet K C_Full Str.empty = true)
    (hd_Full : PySem.W.hasDictIn K C_Full = true)
    (po_Full : PySem.W.plainOver K C_Full = true)
    (sa_Full : PySem.W.findIn K (.ref C_Full) "__setattr__" = some (some (.builtin "object.__setattr__")))
    (ha_Full : PySem.W.findIn K (.ref C_Full) "__class__" = some (some (.builtin "object.__class__")))
    (mr_Full : PySem.W.mroIn K C_Full (.type "object") = some true)
    (ms_Full : PySem.W.mroIn K C_Full (.ref C_Full) = some true)
    (mk_Full : PySem.W.makesIn K C_Full = true)
    (kc_Full : PySem.W.keepIn K (.ref C_Full) = true)
    (ii_Full : PySem.W.findIn K (.ref C_Full) "__init__" = some (some (.builtin "object.__init__")))
    (pg_Keep : PySem.W.plainGet K C_Keep Str.empty = true)
    (hd_Keep : PySem.W.hasDictIn K C_Keep = true)
    (po_Keep : PySem.W.plainOver K C_Keep = true)
    (sa_Keep : PySem.W.findIn K (.ref C_Keep) "__setattr__" = some (some (.builtin "object.__setattr__")))
    (ha_Keep : PySem.W.findIn K (.ref C_Keep) "__class__" = some (some (.builtin "object.__class__")))
    (mr_Keep : PySem.W.mroIn K C_Keep (.type "object") = some true)
    (ms_Keep : PySem.W.mroIn K C_Keep (.ref C_Keep) = some true)
    (mk_Keep : PySem.W.makesIn K C_Keep = true)
    (kc_Keep : PySem.W.keepIn K (.ref C_Keep) = true)
    (na_Keep_wide : PySem.W.findIn K (.ref C_Keep) "wide" = some none)
    (pg_Lean : PySem.W.plainGet K C_Lean Str.empty = true)
    (hd_Lean : PySem.W.hasDictIn K C_Lean = true)
    (po_Lean : PySem.W.plainOver K C_Lean = true)
    (sa_Lean : PySem.W.findIn K (.ref C_Lean) "__setattr__" = some (some (.builtin "object.__setattr__")))
    (ha_Lean : PySem.W.findIn K (.ref C_Lean) "__class__" = some (some (.builtin "object.__class__")))
    (mr_Lean : PySem.W.mroIn K C_Lean (.type "object") = some true)
    (ms_Lean : PySem.W.mroIn K C_Lean (.ref C_Lean) = some true)
    (mk_Lean : PySem.W.makesIn K C_Lean = true)
    (kc_Lean : PySem.W.keepIn K (.ref C_Lean) = true)
    (na_Lean_wide : PySem.W.findIn K (.ref C_Lean) "wide" = some none)
    (pg_Dig : PySem.W.plainGet K C_Dig Str.empty = true)
    (hd_Dig : PySem.W.hasDictIn K C_Dig = true)
    (po_Dig : PySem.W.plainOver K C_Dig = true)
    (sa_Dig : PySem.W.findIn K (.ref C_Dig) "__setattr__" = some (some (.builtin "object.__setattr__")))
    (ha_Dig : PySem.W.findIn K (.ref C_Dig) "__class__" = some (some (.builtin "object.__class__")))
    (mr_Dig : PySem.W.mroIn K C_Dig (.type "object") = some true)
    (ms_Dig : PySem.W.mroIn K C_Dig (.ref C_Dig) = some true)
    (mk_Dig : PySem.W.makesIn K C_Dig = true)
    (kc_Dig : PySem.W.keepIn K (.ref C_Dig) = true)
    (na_Dig_wide : PySem.W.findIn K (.ref C_Dig) "wide" = some none)
    (pg_Script : PySem.W.plainGet K C_Script Str.empty = true)
    (hd_Script : PySem.W.hasDictIn K C_Script = true)
    (po_Script : PySem.W.plainOver K C_Script = true)
    (sa_Script : PySem.W.findIn K (.ref C_Script) "__setattr__" = some (some (.builtin "object.__setattr__")))
    (ha_Script : PySem.W.findIn K (.ref C_Script) "__class__" = some (some (.builtin "object.__class__")))
    (mr_Script : PySem.W.mroIn K C_Script (.type "object") = some true)
    (ms_Script : PySem.W.mroIn K C_Script (.ref C_Script) = some true)
    (mk_Script : PySem.W.makesIn K C_Script = true)
    (kc_Script : PySem.W.keepIn K (.ref C_Script) = true)
    (na_Script_rows : PySem.W.findIn K (.ref C_Script) "rows" = some none)
    (ic_Dig : PySem.W.isClsIn K C_Dig = true)
    (tc_Dig : PySem.W.typeIn K (.ref C_Dig) = some (.type "type"))
    (ic_File : PySem.W.isClsIn K C_File = true)
    (tc_File : PySem.W.typeIn K (.ref C_File) = some (.type "type"))
    (ic_Full : PySem.W.isClsIn K C_Full = true)
    (tc_Full : PySem.W.typeIn K (.ref C_Full) = some (.type "type"))
    (ic_Keep : PySem.W.isClsIn K C_Keep = true)
    (tc_Keep : PySem.W.typeIn K (.ref C_Keep) = some (.type "type"))
    (ic_Lean : PySem.W.isClsIn K C_Lean = true)
    (tc_Lean : PySem.W.typeIn K (.ref C_Lean) = some (.type "type"))
    (ic_Script : PySem.W.isClsIn K C_Script = true)
    (tc_Script : PySem.W.typeIn K (.ref C_Script) = some (.type "type"))
    (ic_Step : PySem.W.isClsIn K C_Step = true)
    (tc_Step : PySem.W.typeIn K (.ref C_Step) = some (.type "type"))
    (ne_File : PySem.W.findIn K (.ref C_File) "__ne__" = some (some (.builtin "object.__ne__")))
    (fi_File_getitem : PySem.W.fnIn K f_File_getitem = true)
    (ne_Full : PySem.W.findIn K (.ref C_Full) "__ne__" = some (some (.builtin "object.__ne__")))
    (ne_Keep : PySem.W.findIn K (.ref C_Keep) "__ne__" = some (some (.builtin "object.__ne__")))
    (ne_Lean : PySem.W.findIn K (.ref C_Lean) "__ne__" = some (some (.builtin "object.__ne__")))
    (ne_Dig : PySem.W.findIn K (.ref C_Dig) "__ne__" = some (some (.builtin "object.__ne__")))
    (ne_Script : PySem.W.findIn K (.ref C_Script) "__ne__" = some (some (.builtin "object.__ne__")))
    (fi_Script_getitem : PySem.W.fnIn K f_Script_getitem = true)
    (sf_Script : PySem.W.selfFirst K C_Script = true)
    (isi_Script : PySem.W.subIn K (.type "int") (.ref C_Script) = some false)
    (rr_Script_mul : PySem.W.findIn K (.ref C_Script) "__rmul__" = some none)
    (im_Script_mul : PySem.W.findIn K (.type "int") "__mul__" = some fo_Script_mul)
    (ir_Script_mul : PySem.W.findIn K (.type "int") "__rmul__" = some ro_Script_mul)
    (s_File_Dig : PySem.W.subIn K (.ref C_File) (.ref C_Dig) = some false)
    (s_File_Full : PySem.W.subIn K (.ref C_File) (.ref C_Full) = some false)
    (s_File_Keep : PySem.W.subIn K (.ref C_File) (.ref C_Keep) = some false)
    (s_File_Lean : PySem.W.subIn K (.ref C_File) (.ref C_Lean) = some false)
    (s_File_Script : PySem.W.subIn K (.ref C_File) (.ref C_Script) = some false)
    (s_File_Step : PySem.W.subIn K (.ref C_File) (.ref C_Step) = some false)
    (s_File_bool : PySem.W.subIn K (.ref C_File) (.type "bool") = some false)
    (s_File_int : PySem.W.subIn K (.ref C_File) (.type "int") = some false)
    (s_File_list : PySem.W.subIn K (.ref C_File) (.type "list") = some false)
    (s_File_str : PySem.W.subIn K (.ref C_File) (.type "str") = some false)
    (nf_Full_File : PySem.W.notFirst K C_Full (.ref C_File) = true)
    (nf_Keep_File : PySem.W.notFirst K C_Keep (.ref C_File) = true)
    (nf_Lean_File : PySem.W.notFirst K C_Lean (.ref C_File) = true)
    (nf_Dig_File : PySem.W.notFirst K C_Dig (.ref C_File) = true)
    (nf_Script_File : PySem.W.notFirst K C_Script (.ref C_File) = true)
    (s_Step_Dig : PySem.W.subIn K (.ref C_Step) (.ref C_Dig) = some false)
    (s_Step_File : PySem.W.subIn K (.ref C_Step) (.ref C_File) = some false)
    (s_Step_Full : PySem.W.subIn K (.ref C_Step) (.ref C_Full) = some false)
    (s_Step_Keep : PySem.W.subIn K (.ref C_Step) (.ref C_Keep) = some false)
    (s_Step_Lean : PySem.W.subIn K (.ref C_Step) (.ref C_Lean) = some false)
    (s_Step_Script : PySem.W.subIn K (.ref C_Step) (.ref C_Script) = some false)
    (s_Step_bool : PySem.W.subIn K (.ref C_Step) (.type "bool") = some false)
    (s_Step_int : PySem.W.subIn K (.ref C_Step) (.type "int") = some false)
    (s_Step_list : PySem.W.subIn K (.ref C_Step) (.type "list") = some false)
    (s_Step_str : PySem.W.subIn K (.ref C_Step) (.type "str") = some false)
    (nf_File_Step : PySem.W.notFirst K C_File (.ref C_Step) = true)
    (nf_Full_Step : PySem.W.notFirst K C_Full (.ref C_Step) = true)
    (nf_Keep_Step : PySem.W.notFirst K C_Keep (.ref C_Step) = true)
    (nf_Lean_Step : PySem.W.notFirst K C_Lean (.ref C_Step) = true)
    (nf_Dig_Step : PySem.W.notFirst K C_Dig (.ref C_Step) = true)
    (nf_Script_Step : PySem.W.notFirst K C_Script (.ref C_Step) = true)
    (s_Full_Dig : PySem.W.subIn K (.ref C_Full) (.ref C_Dig) = some false)
    (s_Full_File : PySem.W.subIn K (.ref C_Full) (.ref C_File) = some false)
    (s_Full_Keep : PySem.W.subIn K (.ref C_Full) (.ref C_Keep) = some false)
    (s_Full_Lean : PySem.W.subIn K (.ref C_Full) (.ref C_Lean) = some false)
    (s_Full_Script : PySem.W.subIn K (.ref C_Full) (.ref C_Script) = some false)
    (s_Full_Step : PySem.W.subIn K (.ref C_Full) (.ref C_Step) = some true)
    (s_Full_bool : PySem.W.subIn K (.ref C_Full) (.type "bool") = some false)
    (s_Full_int : PySem.W.subIn K (.ref C_Full) (.type "int") = some false)
    (s_Full_list : PySem.W.subIn K (.ref C_Full) (.type "list") = some false)
    (s_Full_str : PySem.W.subIn K (.ref C_Full) (.type "str") = some false)
    (nf_File_Full : PySem.W.notFirst K C_File (.ref C_Full) = true)
    (nf_Keep_Full : PySem.W.notFirst K C_Keep (.ref C_Full) = true)
    (nf_Lean_Full : PySem.W.notFirst K C_Lean (.ref C_Full) = true)
    (nf_Dig_Full : PySem.W.notFirst K C_Dig (.ref C_Full) = true)
    (nf_Script_Full : PySem.W.notFirst K C_Script (.ref C_Full) = true)
    (s_Keep_Dig : PySem.W.subIn K (.ref C_Keep) (.ref C_Dig) = some false)
    (s_Keep_File : PySem.W.subIn K (.ref C_Keep) (.ref C_File) = some false)
    (s_Keep_Full : PySem.W.subIn K (.ref C_Keep) (.ref C_Full) = some false)
    (s_Keep_Lean : PySem.W.subIn K (.ref C_Keep) (.ref C_Lean) = some false)
    (s_Keep_Script : PySem.W.subIn K (.ref C_Keep) (.ref C_Script) = some false)
    (s_Keep_Step : PySem.W.subIn K (.ref C_Keep) (.ref C_Step) = some true)
    (s_Keep_bool : PySem.W.subIn K (.ref C_Keep) (.type "bool") = some false)
    (s_Keep_int : PySem.W.subIn K (.ref C_Keep) (.type "int") = some false)
    (s_Keep_list : PySem.W.subIn K (.ref C_Keep) (.type "list") = some false)
    (s_Keep_str : PySem.W.subIn K (.ref C_Keep) (.type "str") = some false)
    (nf_File_Keep : PySem.W.notFirst K C_File (.ref C_Keep) = true)
    (nf_Full_Keep : PySem.W.notFirst K C_Full (.ref C_Keep) = true)
    (nf_Lean_Keep : PySem.W.notFirst K C_Lean (.ref C_Keep) = true)
    (nf_Dig_Keep : PySem.W.notFirst K C_Dig (.ref C_Keep) = true)
    (nf_Script_Keep : PySem.W.notFirst K C_Script (.ref C_Keep) = true)
    (s_Lean_Dig : PySem.W.subIn K (.ref C_Lean) (.ref C_Dig) = some false)
    (s_Lean_File : PySem.W.subIn K (.ref C_Lean) (.ref C_File) = some false)
    (s_Lean_Full : PySem.W.subIn K (.ref C_Lean) (.ref C_Full) = some false)
    (s_Lean_Keep : PySem.W.subIn K (.ref C_Lean) (.ref C_Keep) = some false)
    (s_Lean_Script : PySem.W.subIn K (.ref C_Lean) (.ref C_Script) = some false)
    (s_Lean_Step : PySem.W.subIn K (.ref C_Lean) (.ref C_Step) = some true)
    (s_Lean_bool : PySem.W.subIn K (.ref C_Lean) (.type "bool") = some false)
    (s_Lean_int : PySem.W.subIn K (.ref C_Lean) (.type "int") = some false)
    (s_Lean_list : PySem.W.subIn K (.ref C_Lean) (.type "list") = some false)
    (s_Lean_str : PySem.W.subIn K (.ref C_Lean) (.type "str") = some false)
    (nf_File_Lean : PySem.W.notFirst K C_File (.ref C_Lean) = true)
    (nf_Full_Lean : PySem.W.notFirst K C_Full (.ref C_Lean) = true)
    (nf_Keep_Lean : PySem.W.notFirst K C_Keep (.ref C_Lean) = true)
    (nf_Dig_Lean : PySem.W.notFirst K C_Dig (.ref C_Lean) = true)
    (nf_Script_Lean : PySem.W.notFirst K C_Script (.ref C_Lean) = true)
    (s_Dig_File : PySem.W.subIn K (.ref C_Dig) (.ref C_File) = some false)
    (s_Dig_Full : PySem.W.subIn K (.ref C_Dig) (.ref C_Full) = some false)
    (s_Dig_Keep : PySem.W.subIn K (.ref C_Dig) (.ref C_Keep) = some false)
    (s_Dig_Lean : PySem.W.subIn K (.ref C_Dig) (.ref C_Lean) = some false)
    (s_Dig_Script : PySem.W.subIn K (.ref C_Dig) (.ref C_Script) = some false)
    (s_Dig_Step : PySem.W.subIn K (.ref C_Dig) (.ref C_Step) = some true)
    (s_Dig_bool : PySem.W.subIn K (.ref C_Dig) (.type "bool") = some false)
    (s_Dig_int : PySem.W.subIn K (.ref C_Dig) (.type "int") = some false)
    (s_Dig_list : PySem.W.subIn K (.ref C_Dig) (.type "list") = some false)
    (s_Dig_str : PySem.W.subIn K (.ref C_Dig) (.type "str") = some false)
    (nf_File_Dig : PySem.W.notFirst K C_File (.ref C_Dig) = true)
    (nf_Full_Dig : PySem.W.notFirst K C_Full (.ref C_Dig) = true)
    (nf_Keep_Dig : PySem.W.notFirst K C_Keep (.ref C_Dig) = true)
    (nf_Lean_Dig : PySem.W.notFirst K C_Lean (.ref C_Dig) = true)
    (nf_Script_Dig : PySem.W.notFirst K C_Script (.ref C_Dig) = true)
    (s_Script_Dig : PySem.W.subIn K (.ref C_Script) (.ref C_Dig) = some false)
    (s_Script_File : PySem.W.subIn K (.ref C_Script) (.ref C_File) = some false)
    (s_Script_Full : PySem.W.subIn K (.ref C_Script) (.ref C_Full) = some false)
    (s_Script_Keep : PySem.W.subIn K (.ref C_Script) (.ref C_Keep) = some false)
    (s_Script_Lean : PySem.W.subIn K (.ref C_Script) (.ref C_Lean) = some false)
    (s_Script_Step : PySem.W.subIn K (.ref C_Script) (.ref C_Step) = some false)
    (s_Script_bool : PySem.W.subIn K (.ref C_Script) (.type "bool") = some false)
    (s_Script_int : PySem.W.subIn K (.ref C_Script) (.type "int") = some false)
    (s_Script_list : PySem.W.subIn K (.ref C_Script) (.type "list") = some false)
    (s_Script_str : PySem.W.subIn K (.ref C_Script) (.type "str") = some false)
    (nf_File_Script : PySem.W.notFirst K C_File (.ref C_Script) = true)
    (nf_Full_Script : PySem.W.notFirst K C_Full (.ref C_Script) = true)
    (nf_Keep_Script : PySem.W.notFirst K C_Keep (.ref C_Script) = true)
    (nf_Lean_Script : PySem.W.notFirst K C_Lean (.ref C_Script) = true)
    (nf_Dig_Script : PySem.W.notFirst K C_Dig (.ref C_Script) = true)
    (zop : PySem.W.nsIn K cStatics "thirdparty.any" = some none)
    (ac_InvalidFile : PySem.W.nsIn K mainGlobals "InvalidFile" = some (some (.ref C_InvalidFile)))
    (ac_HoleError : PySem.W.nsIn K mainGlobals "HoleError" = some (some (.ref C_HoleError)))
    (xL_InvalidFile : K.lookup C_InvalidFile = some (excClassObj nm_InvalidFile q_InvalidFile C_InvalidFile NN_InvalidFile bs_InvalidFile [.ref C_HoleError, .type "ValueError", .type "Exception", .type "BaseException", .type "object"] true sn_InvalidFile sub_InvalidFile ab_InvalidFile col_InvalidFile dd_InvalidFile m0_InvalidFile m1_InvalidFile m2_InvalidFile m3_InvalidFile m5_InvalidFile "ValueError.__new__"))
    (sa_InvalidFile : PySem.W.findIn K (.ref C_InvalidFile) "__setattr__" = some (some (.builtin "object.__setattr__")))
    (ga_InvalidFile : PySem.W.findIn K (.ref C_InvalidFile) "__getattribute__" = some (some (.builtin "BaseException.__getattribute__")))
    (gg_InvalidFile : PySem.W.findIn K (.ref C_InvalidFile) "__getattr__" = some none)
    (nb_InvalidFile : PySem.W.findIn K (.ref C_InvalidFile) "value" = some none)
    (i_InvalidFile : PySem.W.findIn K (.ref C_InvalidFile) "__init__" = some (some (.ref I_InvalidFile)))
    (t_InvalidFile : PySem.W.typeIn K (.ref I_InvalidFile) = some (.type "function"))
    (l_InvalidFile : K.lookup I_InvalidFile = some ⟨oc_InvalidFile, od_InvalidFile, .func (ksFn "__init__" "InvalidFile.__init__" (defArgs si_InvalidFile) (defBody si_InvalidFile) (defScope si_InvalidFile) (.ref T_InvalidFile) kV_InvalidFile dc_InvalidFile pm_InvalidFile an_InvalidFile (.ref cda_InvalidFile) ct_InvalidFile cc_InvalidFile), sl_InvalidFile⟩)
    (ld_InvalidFile : K.lookup T_InvalidFile = some ⟨ocT_InvalidFile, odT_InvalidFile, .seq #[.none] nT_InvalidFile, slT_InvalidFile⟩)
    (cd_InvalidFile : PySem.W.codeIn K (.ref cda_InvalidFile) "InvalidFile.__init__" = true)
    (cr_InvalidFile : K.lookup cda_InvalidFile = some ⟨ccl_InvalidFile, cdd_InvalidFile, .fields vs_InvalidFile, ccs_InvalidFile⟩)
    (v2_InvalidFile : vs_InvalidFile[2]? = some (.str file_InvalidFile tf_InvalidFile))
    (fl_InvalidFile : ((PySem.Challenge.rw_keptholes_k24_refused_comparisons.prog.main.file : Str) == file_InvalidFile) = true)
    (clc_InvalidFile : K.lookup cc_InvalidFile = some ⟨cl_InvalidFile, cld_InvalidFile, .cell (some (.ref C_InvalidFile)), csl_InvalidFile⟩)
    (al_InvalidFile : PySem.W.ks_superIn K C_InvalidFile C_InvalidFile "__init__" = some (some (.builtin "ValueError.__init__")))
    (sV_InvalidFile : PySem.W.subIn K (.ref C_InvalidFile) (.type "ValueError") = some true)
    (eC_InvalidFile : PySem.W.subIn K (.ref C_InvalidFile) (.type "BaseException") = some true)
    (sC_InvalidFile : PySem.W.mroIn K C_InvalidFile (.ref C_InvalidFile) = some true)
    (kC_InvalidFile : PySem.W.keepIn K (.ref C_InvalidFile) = true)
    (tC_InvalidFile : PySem.W.typeIn K (.ref C_InvalidFile) = some (.type "type"))
    (hC_InvalidFile : PySem.W.hasDictIn K C_InvalidFile = true)
    (iC_InvalidFile : PySem.W.isClsIn K C_InvalidFile = true)
    (s_InvalidFile_InvalidFile : PySem.W.subIn K (.ref C_InvalidFile) (.ref C_InvalidFile) = some true)
    (ac_InvalidNumber : PySem.W.nsIn K mainGlobals "InvalidNumber" = some (some (.ref C_InvalidNumber)))
    (xL_InvalidNumber : K.lookup C_InvalidNumber = some (excClassObj nm_InvalidNumber q_InvalidNumber C_InvalidNumber NN_InvalidNumber bs_InvalidNumber [.ref C_HoleError, .type "ValueError", .type "Exception", .type "BaseException", .type "object"] true sn_InvalidNumber sub_InvalidNumber ab_InvalidNumber col_InvalidNumber dd_InvalidNumber m0_InvalidNumber m1_InvalidNumber m2_InvalidNumber m3_InvalidNumber m5_InvalidNumber "ValueError.__new__"))
    (sa_InvalidNumber : PySem.W.findIn K (.ref C_InvalidNumber) "__setattr__" = some (some (.builtin "object.__setattr__")))
    (ga_InvalidNumber : PySem.W.findIn K (.ref C_InvalidNumber) "__getattribute__" = some (some (.builtin "BaseException.__getattribute__")))
    (gg_InvalidNumber : PySem.W.findIn K (.ref C_InvalidNumber) "__getattr__" = some none)
    (nb_InvalidNumber : PySem.W.findIn K (.ref C_InvalidNumber) "value" = some none)
    (i_InvalidNumber : PySem.W.findIn K (.ref C_InvalidNumber) "__init__" = some (some (.ref I_InvalidNumber)))
    (t_InvalidNumber : PySem.W.typeIn K (.ref I_InvalidNumber) = some (.type "function"))
    (l_InvalidNumber : K.lookup I_InvalidNumber = some ⟨oc_InvalidNumber, od_InvalidNumber, .func (ksFn "__init__" "InvalidNumber.__init__" (defArgs si_InvalidNumber) (defBody si_InvalidNumber) (defScope si_InvalidNumber) (.ref T_InvalidNumber) kV_InvalidNumber dc_InvalidNumber pm_InvalidNumber an_InvalidNumber (.ref cda_InvalidNumber) ct_InvalidNumber cc_InvalidNumber), sl_InvalidNumber⟩)
    (ld_InvalidNumber : K.lookup T_InvalidNumber = some ⟨ocT_InvalidNumber, odT_InvalidNumber, .seq #[.none] nT_InvalidNumber, slT_InvalidNumber⟩)
    (cd_InvalidNumber : PySem.W.codeIn K (.ref cda_InvalidNumber) "InvalidNumber.__init__" = true)
    (cr_InvalidNumber : K.lookup cda_InvalidNumber = some ⟨ccl_InvalidNumber, cdd_InvalidNumber, .fields vs_InvalidNumber, ccs_InvalidNumber⟩)
    (v2_InvalidNumber : vs_InvalidNumber[2]? = some (.str file_InvalidNumber tf_InvalidNumber))
    (fl_InvalidNumber : ((PySem.Challenge.rw_keptholes_k24_refused_comparisons.prog.main.file : Str) == file_InvalidNumber) = true)
    (clc_InvalidNumber : K.lookup cc_InvalidNumber = some ⟨cl_InvalidNumber, cld_InvalidNumber, .cell (some (.ref C_InvalidNumber)), csl_InvalidNumber⟩)
    (al_InvalidNumber : PySem.W.ks_superIn K C_InvalidNumber C_InvalidNumber "__init__" = some (some (.builtin "ValueError.__init__")))
    (sV_InvalidNumber : PySem.W.subIn K (.ref C_InvalidNumber) (.type "ValueError") = some true)
    (eC_InvalidNumber : PySem.W.subIn K (.ref C_InvalidNumber) (.type "BaseException") = some true)
    (sC_InvalidNumber : PySem.W.mroIn K C_InvalidNumber (.ref C_InvalidNumber) = some true)
    (kC_InvalidNumber : PySem.W.keepIn K (.ref C_InvalidNumber) = true)
    (tC_InvalidNumber : PySem.W.typeIn K (.ref C_InvalidNumber) = some (.type "type"))
    (hC_InvalidNumber : PySem.W.hasDictIn K C_InvalidNumber = true)
    (iC_InvalidNumber : PySem.W.isClsIn K C_InvalidNumber = true)
    (s_InvalidNumber_InvalidNumber : PySem.W.subIn K (.ref C_InvalidNumber) (.ref C_InvalidNumber) = some true)
    (ac_InvalidScript : PySem.W.nsIn K mainGlobals "InvalidScript" = some (some (.ref C_InvalidScript)))
    (xL_InvalidScript : K.lookup C_InvalidScript = some (excClassObj nm_InvalidScript q_InvalidScript C_InvalidScript NN_InvalidScript bs_InvalidScript [.ref C_HoleError, .type "ValueError", .type "Exception", .type "BaseException", .type "object"] true sn_InvalidScript sub_InvalidScript ab_InvalidScript col_InvalidScript dd_InvalidScript m0_InvalidScript m1_InvalidScript m2_InvalidScript m3_InvalidScript m5_InvalidScript "ValueError.__new__"))
    (sa_InvalidScript : PySem.W.findIn K (.ref C_InvalidScript) "__setattr__" = some (some (.builtin "object.__setattr__")))
    (ga_InvalidScript : PySem.W.findIn K (.ref C_InvalidScript) "__getattribute__" = some (some (.builtin "BaseException.__getattribute__")))
    (gg_InvalidScript : PySem.W.findIn K (.ref C_InvalidScript) "__getattr__" = some none)
    (nb_InvalidScript : PySem.W.findIn K (.ref C_InvalidScript) "value" = some none)
    (i_InvalidScript : PySem.W.findIn K (.ref C_InvalidScript) "__init__" = some (some (.ref I_InvalidScript)))
    (t_InvalidScript : PySem.W.typeIn K (.ref I_InvalidScript) = some (.type "function"))
    (l_InvalidScript : K.lookup I_InvalidScript = some ⟨oc_InvalidScript, od_InvalidScript, .func (ksFn "__init__" "InvalidScript.__init__" (defArgs si_InvalidScript) (defBody si_InvalidScript) (defScope si_InvalidScript) (.ref T_InvalidScript) kV_InvalidScript dc_InvalidScript pm_InvalidScript an_InvalidScript (.ref cda_InvalidScript) ct_InvalidScript cc_InvalidScript), sl_InvalidScript⟩)
    (ld_InvalidScript : K.lookup T_InvalidScript = some ⟨ocT_InvalidScript, odT_InvalidScript, .seq #[.none] nT_InvalidScript, slT_InvalidScript⟩)
    (cd_InvalidScript : PySem.W.codeIn K (.ref cda_InvalidScript) "InvalidScript.__init__" = true)
    (cr_InvalidScript : K.lookup cda_InvalidScript = some ⟨ccl_InvalidScript, cdd_InvalidScript, .fields vs_InvalidScript, ccs_InvalidScript⟩)
    (v2_InvalidScript : vs_InvalidScript[2]? = some (.str file_InvalidScript tf_InvalidScript))
    (fl_InvalidScript : ((PySem.Challenge.rw_keptholes_k24_refused_comparisons.prog.main.file : Str) == file_InvalidScript) = true)
    (clc_InvalidScript : K.lookup cc_InvalidScript = some ⟨cl_InvalidScript, cld_InvalidScript, .cell (some (.ref C_InvalidScript)), csl_InvalidScript⟩)
    (al_InvalidScript : PySem.W.ks_superIn K C_InvalidScript C_InvalidScript "__init__" = some (some (.builtin "ValueError.__init__")))
    (sV_InvalidScript : PySem.W.subIn K (.ref C_InvalidScript) (.type "ValueError") = some true)
    (eC_InvalidScript : PySem.W.subIn K (.ref C_InvalidScript) (.type "BaseException") = some true)
    (sC_InvalidScript : PySem.W.mroIn K C_InvalidScript (.ref C_InvalidScript) = some true)
    (kC_InvalidScript : PySem.W.keepIn K (.ref C_InvalidScript) = true)
    (tC_InvalidScript : PySem.W.typeIn K (.ref C_InvalidScript) = some (.type "type"))
    (hC_InvalidScript : PySem.W.hasDictIn K C_InvalidScript = true)
    (iC_InvalidScript : PySem.W.isClsIn K C_InvalidScript = true)
    (s_InvalidScript_InvalidScript : PySem.W.subIn K (.ref C_InvalidScript) (.ref C_InvalidScript) = some true)
    (s_InvalidFile_InvalidNumber : PySem.W.subIn K (.ref C_InvalidFile) (.ref C_InvalidNumber) = some false)
    (s_InvalidFile_InvalidScript : PySem.W.subIn K (.ref C_InvalidFile) (.ref C_InvalidScript) = some false)
    (s_InvalidNumber_InvalidFile : PySem.W.subIn K (.ref C_InvalidNumber) (.ref C_InvalidFile) = some false)
    (s_InvalidNumber_InvalidScript : PySem.W.subIn K (.ref C_InvalidNumber) (.ref C_InvalidScript) = some false)
    (s_InvalidScript_InvalidFile : PySem.W.subIn K (.ref C_InvalidScript) (.ref C_InvalidFile) = some false)
    (s_InvalidScript_InvalidNumber : PySem.W.subIn K (.ref C_InvalidScript) (.ref C_InvalidNumber) = some false) :
    ∃ fd : FuncData, (∀ (s : Shared) (v : Value), BindsTo s fd ⟨[v], []⟩ [("script", v)]) ∧ ∀ base : Heap, K.In base → base.Ns mainGlobals mg → FnOk PySem.Challenge.rw_keptholes_k24_refused_comparisons.prog w K mg base CX0 15 fa fd ["script"] (toSp K spLaw) := by
  have e := hfa.symm.trans (PySem.W.mg_of X G a_law)
  have e2 : f_law = fa := by injection e with e; injection e with e; exact e.symm
  subst e2
  let R : Prg K mg := {
    n_ValueError := (PySem.W.mg_none_of X G z_ValueError)
    n_bool := (PySem.W.mg_none_of X G z_bool)
    n_enumerate := (PySem.W.mg_none_of X G z_enumerate)
    n_int := (PySem.W.mg_none_of X G z_int)
    n_isinstance := (PySem.W.mg_none_of X G z_isinstance)
    n_iter := (PySem.W.mg_none_of X G z_iter)
    n_len := (PySem.W.mg_none_of X G z_len)
    n_list := (PySem.W.mg_none_of X G z_list)
    n_max := (PySem.W.mg_none_of X G z_max)
    n_property := (PySem.W.mg_none_of X G z_property)
    n_range := (PySem.W.mg_none_of X G z_range)
    n_set := (PySem.W.mg_none_of X G z_set)
    n_sorted := (PySem.W.mg_none_of X G z_sorted)
    n_str := (PySem.W.mg_none_of X G z_str)
    n_sum := (PySem.W.mg_none_of X G z_sum)
    n_super := (PySem.W.mg_none_of X G z_super)
    n_tuple := (PySem.W.mg_none_of X G z_tuple)
    tg_SIGNS := (tg_SIGNS)
    g_SIGNS := (PySem.W.mg_of X G g_SIGNS)
    C_File := (C_File)
    mc_File := (PySem.W.mg_of X G ac_File)
    C_Step := (C_Step)
    mc_Step := (PySem.W.mg_of X G ac_Step)
    C_Full := (C_Full)
    mc_Full := (PySem.W.mg_of X G ac_Full)
    C_Keep := (C_Keep)
    mc_Keep := (PySem.W.mg_of X G ac_Keep)
    C_Lean := (C_Lean)
    mc_Lean := (PySem.W.mg_of X G ac_Lean)
    C_Dig := (C_Dig)
    mc_Dig := (PySem.W.mg_of X G ac_Dig)
    C_Script := (C_Script)
    mc_Script := (PySem.W.mg_of X G ac_Script)
    f_is_whole := (f_is_whole)
    d_is_whole := (PySem.W.fnOf "is_whole" "is_whole" (defArgs s_is_whole) (defBody s_is_whole) (defScope s_is_whole) .none kV_is_whole dc_is_whole pm_is_whole an_is_whole cd_is_whole ct_is_whole)
    F_is_whole := (fun_mk (st := s_is_whole) l_is_whole c_is_whole k_is_whole)
    b_is_whole := ((fun_mk (st := s_is_whole) l_is_whole c_is_whole k_is_whole).binds (ps := P_is_whole) fun _ _ _ _ _ _ us hl => match us, hl with | [_], _ => rfl)
    m_is_whole := (PySem.W.mg_of X G a_is_whole)
    f_check_least := (f_check_least)
    d_check_least := (PySem.W.fnOf "check_least" "check_least" (defArgs s_check_least) (defBody s_check_least) (defScope s_check_least) .none kV_check_least dc_check_least pm_check_least an_check_least cd_check_least ct_check_least)
    F_check_least := (fun_mk (st := s_check_least) l_check_least c_check_least k_check_least)
    b_check_least := ((fun_mk (st := s_check_least) l_check_least c_check_least k_check_least).binds (ps := P_check_least) fun _ _ _ _ _ _ us hl => match us, hl with | [_, _], _ => rfl)
    m_check_least := (PySem.W.mg_of X G a_check_least)
    f_check_within := (f_check_within)
    d_check_within := (PySem.W.fnOf "check_within" "check_within" (defArgs s_check_within) (defBody s_check_within) (defScope s_check_within) .none kV_check_within dc_check_within pm_check_within an_check_within cd_check_within ct_check_within)
    F_check_within := (fun_mk (st := s_check_within) l_check_within c_check_within k_check_within)
    b_check_within := ((fun_mk (st := s_check_within) l_check_within c_check_within k_check_within).binds (ps := P_check_within) fun _ _ _ _ _ _ us hl => match us, hl with | [_, _, _], _ => rfl)
    m_check_within := (PySem.W.mg_of X G a_check_within)
    f_divisor_of := (f_divisor_of)
    d_divisor_of := (PySem.W.fnOf "divisor_of" "divisor_of" (defArgs s_divisor_of) (defBody s_divisor_of) (defScope s_divisor_of) .none kV_divisor_of dc_divisor_of pm_divisor_of an_divisor_of cd_divisor_of ct_divisor_of)
    F_divisor_of := (fun_mk (st := s_divisor_of) l_divisor_of c_divisor_of k_divisor_of)
    b_divisor_of := ((fun_mk (st := s_divisor_of) l_divisor_of c_divisor_of k_divisor_of).binds (ps := P_divisor_of) fun _ _ _ _ _ _ us hl => match us, hl with | [_, _], _ => rfl)
    m_divisor_of := (PySem.W.mg_of X G a_divisor_of)
    f_multiple_of := (f_multiple_of)
    d_multiple_of := (PySem.W.fnOf "multiple_of" "multiple_of" (defArgs s_multiple_of) (defBody s_multiple_of) (defScope s_multiple_of) .none kV_multiple_of dc_multiple_of pm_multiple_of an_multiple_of cd_multiple_of ct_multiple_of)
    F_multiple_of := (fun_mk (st := s_multiple_of) l_multiple_of c_multiple_of k_multiple_of)
    b_multiple_of := ((fun_mk (st := s_multiple_of) l_multiple_of c_multiple_of k_multiple_of).binds (ps := P_multiple_of) fun _ _ _ _ _ _ us hl => match us, hl with | [_], _ => rfl)
    m_multiple_of := (PySem.W.mg_of X G a_multiple_of)
    f_are_cells := (f_are_cells)
    d_are_cells := (PySem.W.fnOf "are_cells" "are_cells" (defArgs s_are_cells) (defBody s_are_cells) (defScope s_are_cells) .none kV_are_cells dc_are_cells pm_are_cells an_are_cells cd_are_cells ct_are_cells)
    F_are_cells := (fun_mk (st := s_are_cells) l_are_cells c_are_cells k_are_cells)
    b_are_cells := ((fun_mk (st := s_are_cells) l_are_cells c_are_cells k_are_cells).binds (ps := P_are_cells) fun _ _ _ _ _ _ us hl => match us, hl with | [_], _ => rfl)
    m_are_cells := (PySem.W.mg_of X G a_are_cells)
    f_are_steps := (f_are_steps)
    d_are_steps := (PySem.W.fnOf "are_steps" "are_steps" (defArgs s_are_steps) (defBody s_are_steps) (defScope s_are_steps) .none kV_are_steps dc_are_steps pm_are_steps an_are_steps cd_are_steps ct_are_steps)
    F_are_steps := (fun_mk (st := s_are_steps) l_are_steps c_are_steps k_are_steps)
    b_are_steps := ((fun_mk (st := s_are_steps) l_are_steps c_are_steps k_are_steps).binds (ps := P_are_steps) fun _ _ _ _ _ _ us hl => match us, hl with | [_], _ => rfl)
    m_are_steps := (PySem.W.mg_of X G a_are_steps)
    f_check_script := (f_check_script)
    d_check_script := (PySem.W.fnOf "check_script" "check_script" (defArgs s_check_script) (defBody s_check_script) (defScope s_check_script) .none kV_check_script dc_check_script pm_check_script an_check_script cd_check_script ct_check_script)
    F_check_script := (fun_mk (st := s_check_script) l_check_script c_check_script k_check_script)
    b_check_script := ((fun_mk (st := s_check_script) l_check_script c_check_script k_check_script).binds (ps := P_check_script) fun _ _ _ _ _ _ us hl => match us, hl with | [_], _ => rfl)
    m_check_script := (PySem.W.mg_of X G a_check_script)
    f_holds_in := (f_holds_in)
    d_holds_in := (PySem.W.fnOf "holds_in" "holds_in" (defArgs s_holds_in) (defBody s_holds_in) (defScope s_holds_in) .none kV_holds_in dc_holds_in pm_holds_in an_holds_in cd_holds_in ct_holds_in)
    F_holds_in := (fun_mk (st := s_holds_in) l_holds_in c_holds_in k_holds_in)
    b_holds_in := ((fun_mk (st := s_holds_in) l_holds_in c_holds_in k_holds_in).binds (ps := P_holds_in) fun _ _ _ _ _ _ us hl => match us, hl with | [_, _], _ => rfl)
    m_holds_in := (PySem.W.mg_of X G a_holds_in)
    f_is_held := (f_is_held)
    d_is_held := (PySem.W.fnOf "is_held" "is_held" (defArgs s_is_held) (defBody s_is_held) (defScope s_is_held) .none kV_is_held dc_is_held pm_is_held an_is_held cd_is_held ct_is_held)
    F_is_held := (fun_mk (st := s_is_held) l_is_held c_is_held k_is_held)
    b_is_held := ((fun_mk (st := s_is_held) l_is_held c_is_held k_is_held).binds (ps := P_is_held) fun _ _ _ _ _ _ us hl => match us, hl with | [_, _], _ => rfl)
    m_is_held := (PySem.W.mg_of X G a_is_held)
    f_least_of := (f_least_of)
    d_least_of := (PySem.W.fnOf "least_of" "least_of" (defArgs s_least_of) (defBody s_least_of) (defScope s_least_of) .none kV_least_of dc_least_of pm_least_of an_least_of cd_least_of ct_least_of)
    F_least_of := (fun_mk (st := s_least_of) l_least_of c_least_of k_least_of)
    b_least_of := ((fun_mk (st := s_least_of) l_least_of c_least_of k_least_of).binds (ps := P_least_of) fun _ _ _ _ _ _ us hl => match us, hl with | [_], _ => rfl)
    m_least_of := (PySem.W.mg_of X G a_least_of)
    f_dug := (f_dug)
    d_dug := (PySem.W.fnOf "dug" "dug" (defArgs s_dug) (defBody s_dug) (defScope s_dug) .none kV_dug dc_dug pm_dug an_dug cd_dug ct_dug)
    F_dug := (fun_mk (st := s_dug) l_dug c_dug k_dug)
    b_dug := ((fun_mk (st := s_dug) l_dug c_dug k_dug).binds (ps := P_dug) fun _ _ _ _ _ _ us hl => match us, hl with | [_, _], _ => rfl)
    m_dug := (PySem.W.mg_of X G a_dug)
    f_behind_step := (f_behind_step)
    d_behind_step := (PySem.W.fnOf "behind_step" "behind_step" (defArgs s_behind_step) (defBody s_behind_step) (defScope s_behind_step) .none kV_behind_step dc_behind_step pm_behind_step an_behind_step cd_behind_step ct_behind_step)
    F_behind_step := (fun_mk (st := s_behind_step) l_behind_step c_behind_step k_behind_step)
    b_behind_step := ((fun_mk (st := s_behind_step) l_behind_step c_behind_step k_behind_step).binds (ps := P_behind_step) fun _ _ _ _ _ _ us hl => match us, hl with | [_, _], _ => rfl)
    m_behind_step := (PySem.W.mg_of X G a_behind_step)
    f_reason_table := (f_reason_table)
    d_reason_table := (PySem.W.fnOf "reason_table" "reason_table" (defArgs s_reason_table) (defBody s_reason_table) (defScope s_reason_table) .none kV_reason_table dc_reason_table pm_reason_table an_reason_table cd_reason_table ct_reason_table)
    F_reason_table := (fun_mk (st := s_reason_table) l_reason_table c_reason_table k_reason_table)
    b_reason_table := ((fun_mk (st := s_reason_table) l_reason_table c_reason_table k_reason_table).binds (ps := P_reason_table) fun _ _ _ _ _ _ us hl => match us, hl with | [_], _ => rfl)
    m_reason_table := (PySem.W.mg_of X G a_reason_table)
    f_moved_table := (f_moved_table)
    d_moved_table := (PySem.W.fnOf "moved_table" "moved_table" (defArgs s_moved_table) (defBody s_moved_table) (defScope s_moved_table) .none kV_moved_table dc_moved_table pm_moved_table an_moved_table cd_moved_table ct_moved_table)
    F_moved_table := (fun_mk (st := s_moved_table) l_moved_table c_moved_table k_moved_table)
    b_moved_table := ((fun_mk (st := s_moved_table) l_moved_table c_moved_table k_moved_table).binds (ps := P_moved_table) fun _ _ _ _ _ _ us hl => match us, hl with | [_, _], _ => rfl)
    m_moved_table := (PySem.W.mg_of X G a_moved_table)
    f_put_down := (f_put_down)
    d_put_down := (PySem.W.fnOf "put_down" "put_down" (defArgs s_put_down) (defBody s_put_down) (defScope s_put_down) .none kV_put_down dc_put_down pm_put_down an_put_down cd_put_down ct_put_down)
    F_put_down := (fun_mk (st := s_put_down) l_put_down c_put_down k_put_down)
    b_put_down := ((fun_mk (st := s_put_down) l_put_down c_put_down k_put_down).binds (ps := P_put_down) fun _ _ _ _ _ _ us hl => match us, hl with | [_, _, _], _ => rfl)
    m_put_down := (PySem.W.mg_of X G a_put_down)
    f_more_of := (f_more_of)
    d_more_of := (PySem.W.fnOf "more_of" "more_of" (defArgs s_more_of) (defBody s_more_of) (defScope s_more_of) .none kV_more_of dc_more_of pm_more_of an_more_of cd_more_of ct_more_of)
    F_more_of := (fun_mk (st := s_more_of) l_more_of c_more_of k_more_of)
    b_more_of := ((fun_mk (st := s_more_of) l_more_of c_more_of k_more_of).binds (ps := P_more_of) fun _ _ _ _ _ _ us hl => match us, hl with | [_, _], _ => rfl)
    m_more_of := (PySem.W.mg_of X G a_more_of)
    f_check_two := (f_check_two)
    d_check_two := (PySem.W.fnOf "check_two" "check_two" (defArgs s_check_two) (defBody s_check_two) (defScope s_check_two) .none kV_check_two dc_check_two pm_check_two an_check_two cd_check_two ct_check_two)
    F_check_two := (fun_mk (st := s_check_two) l_check_two c_check_two k_check_two)
    b_check_two := ((fun_mk (st := s_check_two) l_check_two c_check_two k_check_two).binds (ps := P_check_two) fun _ _ _ _ _ _ us hl => match us, hl with | [_, _], _ => rfl)
    m_check_two := (PySem.W.mg_of X G a_check_two)
    f_more_file := (f_more_file)
    d_more_file := (PySem.W.fnOf "more_file" "more_file" (defArgs s_more_file) (defBody s_more_file) (defScope s_more_file) .none kV_more_file dc_more_file pm_more_file an_more_file cd_more_file ct_more_file)
    F_more_file := (fun_mk (st := s_more_file) l_more_file c_more_file k_more_file)
    b_more_file := ((fun_mk (st := s_more_file) l_more_file c_more_file k_more_file).binds (ps := P_more_file) fun _ _ _ _ _ _ us hl => match us, hl with | [_, _], _ => rfl)
    m_more_file := (PySem.W.mg_of X G a_more_file)
    f_never_more := (f_never_more)
    d_never_more := (PySem.W.fnOf "never_more" "never_more" (defArgs s_never_more) (defBody s_never_more) (defScope s_never_more) .none kV_never_more dc_never_more pm_never_more an_never_more cd_never_more ct_never_more)
    F_never_more := (fun_mk (st := s_never_more) l_never_more c_never_more k_never_more)
    b_never_more := ((fun_mk (st := s_never_more) l_never_more c_never_more k_never_more).binds (ps := P_never_more) fun _ _ _ _ _ _ us hl => match us, hl with | [_, _], _ => rfl)
    m_never_more := (PySem.W.mg_of X G a_never_more)
    f_parting_of := (f_parting_of)
    d_parting_of := (PySem.W.fnOf "parting_of" "parting_of" (defArgs s_parting_of) (defBody s_parting_of) (defScope s_parting_of) .none kV_parting_of dc_parting_of pm_parting_of an_parting_of cd_parting_of ct_parting_of)
    F_parting_of := (fun_mk (st := s_parting_of) l_parting_of c_parting_of k_parting_of)
    b_parting_of := ((fun_mk (st := s_parting_of) l_parting_of c_parting_of k_parting_of).binds (ps := P_parting_of) fun _ _ _ _ _ _ us hl => match us, hl with | [_, _], _ => rfl)
    m_parting_of := (PySem.W.mg_of X G a_parting_of)
    f_parting := (f_parting)
    d_parting := (PySem.W.fnOf "parting" "parting" (defArgs s_parting) (defBody s_parting) (defScope s_parting) .none kV_parting dc_parting pm_parting an_parting cd_parting ct_parting)
    F_parting := (fun_mk (st := s_parting) l_parting c_parting k_parting)
    b_parting := ((fun_mk (st := s_parting) l_parting c_parting k_parting).binds (ps := P_parting) fun _ _ _ _ _ _ us hl => match us, hl with | [_, _], _ => rfl)
    m_parting := (PySem.W.mg_of X G a_parting)
    f_alike := (f_alike)
    d_alike := (PySem.W.fnOf "alike" "alike" (defArgs s_alike) (defBody s_alike) (defScope s_alike) .none kV_alike dc_alike pm_alike an_alike cd_alike ct_alike)
    F_alike := (fun_mk (st := s_alike) l_alike c_alike k_alike)
    b_alike := ((fun_mk (st := s_alike) l_alike c_alike k_alike).binds (ps := P_alike) fun _ _ _ _ _ _ us hl => match us, hl with | [_, _], _ => rfl)
    m_alike := (PySem.W.mg_of X G a_alike)
    f_exchangeable := (f_exchangeable)
    d_exchangeable := (PySem.W.fnOf "exchangeable" "exchangeable" (defArgs s_exchangeable) (defBody s_exchangeable) (defScope s_exchangeable) .none kV_exchangeable dc_exchangeable pm_exchangeable an_exchangeable cd_exchangeable ct_exchangeable)
    F_exchangeable := (fun_mk (st := s_exchangeable) l_exchangeable c_exchangeable k_exchangeable)
    b_exchangeable := ((fun_mk (st := s_exchangeable) l_exchangeable c_exchangeable k_exchangeable).binds (ps := P_exchangeable) fun _ _ _ _ _ _ us hl => match us, hl with | [_, _], _ => rfl)
    m_exchangeable := (PySem.W.mg_of X G a_exchangeable)
    f_needless := (f_needless)
    d_needless := (PySem.W.fnOf "needless" "needless" (defArgs s_needless) (defBody s_needless) (defScope s_needless) .none kV_needless dc_needless pm_needless an_needless cd_needless ct_needless)
    F_needless := (fun_mk (st := s_needless) l_needless c_needless k_needless)
    b_needless := ((fun_mk (st := s_needless) l_needless c_needless k_needless).binds (ps := P_needless) fun _ _ _ _ _ _ us hl => match us, hl with | [_], _ => rfl)
    m_needless := (PySem.W.mg_of X G a_needless)
    f_keeps_holes := (f_keeps_holes)
    d_keeps_holes := (PySem.W.fnOf "keeps_holes" "keeps_holes" (defArgs s_keeps_holes) (defBody s_keeps_holes) (defScope s_keeps_holes) .none kV_keeps_holes dc_keeps_holes pm_keeps_holes an_keeps_holes cd_keeps_holes ct_keeps_holes)
    F_keeps_holes := (fun_mk (st := s_keeps_holes) l_keeps_holes c_keeps_holes k_keeps_holes)
    b_keeps_holes := ((fun_mk (st := s_keeps_holes) l_keeps_holes c_keeps_holes k_keeps_holes).binds (ps := P_keeps_holes) fun _ _ _ _ _ _ us hl => match us, hl with | [_], _ => rfl)
    m_keeps_holes := (PySem.W.mg_of X G a_keeps_holes)
    f_keeps_written := (f_keeps_written)
    d_keeps_written := (PySem.W.fnOf "keeps_written" "keeps_written" (defArgs s_keeps_written) (defBody s_keeps_written) (defScope s_keeps_written) .none kV_keeps_written dc_keeps_written pm_keeps_written an_keeps_written cd_keeps_written ct_keeps_written)
    F_keeps_written := (fun_mk (st := s_keeps_written) l_keeps_written c_keeps_written k_keeps_written)
    b_keeps_written := ((fun_mk (st := s_keeps_written) l_keeps_written c_keeps_written k_keeps_written).binds (ps := P_keeps_written) fun _ _ _ _ _ _ us hl => match us, hl with | [_], _ => rfl)
    m_keeps_written := (PySem.W.mg_of X G a_keeps_written)
    f_law_purse := (f_law_purse)
    d_law_purse := (PySem.W.fnOf "_law_purse" "_law_purse" (defArgs s_law_purse) (defBody s_law_purse) (defScope s_law_purse) .none kV_law_purse dc_law_purse pm_law_purse an_law_purse cd_law_purse ct_law_purse)
    F_law_purse := (fun_mk (st := s_law_purse) l_law_purse c_law_purse k_law_purse)
    b_law_purse := ((fun_mk (st := s_law_purse) l_law_purse c_law_purse k_law_purse).binds (ps := P_law_purse) fun _ _ _ _ _ _ us hl => match us, hl with | [_, _], _ => rfl)
    m_law_purse := (PySem.W.mg_of X G a_law_purse)
    f_law_draw := (f_law_draw)
    d_law_draw := (PySem.W.fnOf "_law_draw" "_law_draw" (defArgs s_law_draw) (defBody s_law_draw) (defScope s_law_draw) .none kV_law_draw dc_law_draw pm_law_draw an_law_draw cd_law_draw ct_law_draw)
    F_law_draw := (fun_mk (st := s_law_draw) l_law_draw c_law_draw k_law_draw)
    b_law_draw := ((fun_mk (st := s_law_draw) l_law_draw c_law_draw k_law_draw).binds (ps := P_law_draw) fun _ _ _ _ _ _ us hl => match us, hl with | [_, _], _ => rfl)
    m_law_draw := (PySem.W.mg_of X G a_law_draw)
    f_law_steps := (f_law_steps)
    d_law_steps := (PySem.W.fnOf "_law_steps" "_law_steps" (defArgs s_law_steps) (defBody s_law_steps) (defScope s_law_steps) .none kV_law_steps dc_law_steps pm_law_steps an_law_steps cd_law_steps ct_law_steps)
    F_law_steps := (fun_mk (st := s_law_steps) l_law_steps c_law_steps k_law_steps)
    b_law_steps := ((fun_mk (st := s_law_steps) l_law_steps c_law_steps k_law_steps).binds (ps := P_law_steps) fun _ _ _ _ _ _ us hl => match us, hl with | [_, _, _], _ => rfl)
    m_law_steps := (PySem.W.mg_of X G a_law_steps)
    f_law_step := (f_law_step)
    d_law_step := (PySem.W.fnOf "_law_step" "_law_step" (defArgs s_law_step) (defBody s_law_step) (defScope s_law_step) .none kV_law_step dc_law_step pm_law_step an_law_step cd_law_step ct_law_step)
    F_law_step := (fun_mk (st := s_law_step) l_law_step c_law_step k_law_step)
    b_law_step := ((fun_mk (st := s_law_step) l_law_step c_law_step k_law_step).binds (ps := P_law_step) fun _ _ _ _ _ _ us hl => match us, hl with | [_], _ => rfl)
    m_law_step := (PySem.W.mg_of X G a_law_step)
    f_law_script := (f_law_script)
    d_law_script := (PySem.W.fnOf "_law_script" "_law_script" (defArgs s_law_script) (defBody s_law_script) (defScope s_law_script) .none kV_law_script dc_law_script pm_law_script an_law_script cd_law_script ct_law_script)
    F_law_script := (fun_mk (st := s_law_script) l_law_script c_law_script k_law_script)
    b_law_script := ((fun_mk (st := s_law_script) l_law_script c_law_script k_law_script).binds (ps := P_law_script) fun _ _ _ _ _ _ us hl => match us, hl with | [_], _ => rfl)
    m_law_script := (PySem.W.mg_of X G a_law_script)
    f_law_call := (f_law_call)
    d_law_call := (PySem.W.fnOf "_law_call" "_law_call" (defArgs s_law_call) (defBody s_law_call) (defScope s_law_call) .none kV_law_call dc_law_call pm_law_call an_law_call cd_law_call ct_law_call)
    F_law_call := (fun_mk (st := s_law_call) l_law_call c_law_call k_law_call)
    b_law_call := ((fun_mk (st := s_law_call) l_law_call c_law_call k_law_call).binds (ps := P_law_call) fun _ _ _ _ _ _ us hl => match us, hl with | [_, _, _], _ => rfl)
    m_law_call := (PySem.W.mg_of X G a_law_call)
    f_law_told := (f_law_told)
    d_law_told := (PySem.W.fnOf "_law_told" "_law_told" (defArgs s_law_told) (defBody s_law_told) (defScope s_law_told) .none kV_law_told dc_law_told pm_law_told an_law_told cd_law_told ct_law_told)
    F_law_told := (fun_mk (st := s_law_told) l_law_told c_law_told k_law_told)
    b_law_told := ((fun_mk (st := s_law_told) l_law_told c_law_told k_law_told).binds (ps := P_law_told) fun _ _ _ _ _ _ us hl => match us, hl with | [_, _, _], _ => rfl)
    m_law_told := (PySem.W.mg_of X G a_law_told)
    f_law := (f_law)
    d_law := (PySem.W.fnOf "law" "law" (defArgs s_law) (defBody s_law) (defScope s_law) .none kV_law dc_law pm_law an_law cd_law ct_law)
    F_law := (fun_mk (st := s_law) l_law c_law k_law)
    b_law := ((fun_mk (st := s_law) l_law c_law k_law).binds (ps := P_law) fun _ _ _ _ _ _ us hl => match us, hl with | [_], _ => rfl)
    m_law := (PySem.W.mg_of X G a_law)
    tk0_File_init := (tk0_File_init)
    f_File_init := (f_File_init)
    d_File_init := (PySem.W.fnOf "__init__" "File.__init__" (defArgs s_File_init) (defBody s_File_init) (defScope s_File_init) (.ref T_File_init) kV_File_init dc_File_init pm_File_init an_File_init cd_File_init ct_File_init)
    F_File_init := (⟨⟨oc_File_init, od_File_init, (.ref T_File_init), kV_File_init, dc_File_init, pm_File_init, an_File_init, cd_File_init, ct_File_init, sl_File_init, rfl, l_File_init, c_File_init⟩, k_File_init⟩)
    b_File_init := (fun s us X hl => match us, hl with | [_, _], _ => BindsTo.of_defaults (T := T_File_init) rfl (X _ _ ld_File_init) rfl rfl rfl)
    b1_File_init := (fun s us X hl => match us, (show us.length = 1 by simpa using hl) with | [_], _ => BindsTo.of_defaults (T := T_File_init) rfl (X _ _ ld_File_init) rfl rfl rfl)
    M_File_init := (⟨a_File_init, i_File_init, k_File_init⟩)
    f_File_cells := (f_File_cells)
    d_File_cells := (PySem.W.fnOf "cells" "File.cells" (defArgs s_File_cells) (defBody s_File_cells) (defScope s_File_cells) .none kV_File_cells dc_File_cells pm_File_cells an_File_cells cd_File_cells ct_File_cells)
    F_File_cells := (fun_mk (st := s_File_cells) l_File_cells c_File_cells k_File_cells)
    b_File_cells := ((fun_mk (st := s_File_cells) l_File_cells c_File_cells k_File_cells).binds (ps := P_File_cells) fun _ _ _ _ _ _ us hl => match us, hl with | [_], _ => rfl)
    pr_File_cells := pr_File_cells
    V_File_cells := (⟨pa_File_cells, pb_File_cells, pc_File_cells, ⟨rs_File_cells, pd_File_cells⟩⟩)
    f_File_len := (f_File_len)
    d_File_len := (PySem.W.fnOf "__len__" "File.__len__" (defArgs s_File_len) (defBody s_File_len) (defScope s_File_len) .none kV_File_len dc_File_len pm_File_len an_File_len cd_File_len ct_File_len)
    F_File_len := (fun_mk (st := s_File_len) l_File_len c_File_len k_File_len)
    b_File_len := ((fun_mk (st := s_File_len) l_File_len c_File_len k_File_len).binds (ps := P_File_len) fun _ _ _ _ _ _ us hl => match us, hl with | [_], _ => rfl)
    M_File_len := (⟨a_File_len, i_File_len, k_File_len⟩)
    f_File_iter := (f_File_iter)
    d_File_iter := (PySem.W.fnOf "__iter__" "File.__iter__" (defArgs s_File_iter) (defBody s_File_iter) (defScope s_File_iter) .none kV_File_iter dc_File_iter pm_File_iter an_File_iter cd_File_iter ct_File_iter)
    F_File_iter := (fun_mk (st := s_File_iter) l_File_iter c_File_iter k_File_iter)
    b_File_iter := ((fun_mk (st := s_File_iter) l_File_iter c_File_iter k_File_iter).binds (ps := P_File_iter) fun _ _ _ _ _ _ us hl => match us, hl with | [_], _ => rfl)
    M_File_iter := (⟨a_File_iter, i_File_iter, k_File_iter⟩)
    f_File_getitem := (f_File_getitem)
    d_File_getitem := (PySem.W.fnOf "__getitem__" "File.__getitem__" (defArgs s_File_getitem) (defBody s_File_getitem) (defScope s_File_getitem) .none kV_File_getitem dc_File_getitem pm_File_getitem an_File_getitem cd_File_getitem ct_File_getitem)
    F_File_getitem := (fun_mk (st := s_File_getitem) l_File_getitem c_File_getitem k_File_getitem)
    b_File_getitem := ((fun_mk (st := s_File_getitem) l_File_getitem c_File_getitem k_File_getitem).binds (ps := P_File_getitem) fun _ _ _ _ _ _ us hl => match us, hl with | [_, _], _ => rfl)
    M_File_getitem := (⟨a_File_getitem, i_File_getitem, k_File_getitem⟩)
    f_File_eq := (f_File_eq)
    d_File_eq := (PySem.W.fnOf "__eq__" "File.__eq__" (defArgs s_File_eq) (defBody s_File_eq) (defScope s_File_eq) .none kV_File_eq dc_File_eq pm_File_eq an_File_eq cd_File_eq ct_File_eq)
    F_File_eq := (fun_mk (st := s_File_eq) l_File_eq c_File_eq k_File_eq)
    b_File_eq := ((fun_mk (st := s_File_eq) l_File_eq c_File_eq k_File_eq).binds (ps := P_File_eq) fun _ _ _ _ _ _ us hl => match us, hl with | [_, _], _ => rfl)
    M_File_eq := (⟨a_File_eq, i_File_eq, k_File_eq⟩)
    f_Full_eq := (f_Full_eq)
    d_Full_eq := (PySem.W.fnOf "__eq__" "Full.__eq__" (defArgs s_Full_eq) (defBody s_Full_eq) (defScope s_Full_eq) .none kV_Full_eq dc_Full_eq pm_Full_eq an_Full_eq cd_Full_eq ct_Full_eq)
    F_Full_eq := (fun_mk (st := s_Full_eq) l_Full_eq c_Full_eq k_Full_eq)
    b_Full_eq := ((fun_mk (st := s_Full_eq) l_Full_eq c_Full_eq k_Full_eq).binds (ps := P_Full_eq) fun _ _ _ _ _ _ us hl => match us, hl with | [_, _], _ => rfl)
    M_Full_eq := (⟨a_Full_eq, i_Full_eq, k_Full_eq⟩)
    f_Keep_init := (f_Keep_init)
    d_Keep_init := (PySem.W.fnOf "__init__" "Keep.__init__" (defArgs s_Keep_init) (defBody s_Keep_init) (defScope s_Keep_init) .none kV_Keep_init dc_Keep_init pm_Keep_init an_Keep_init cd_Keep_init ct_Keep_init)
    F_Keep_init := (fun_mk (st := s_Keep_init) l_Keep_init c_Keep_init k_Keep_init)
    b_Keep_init := ((fun_mk (st := s_Keep_init) l_Keep_init c_Keep_init k_Keep_init).binds (ps := P_Keep_init) fun _ _ _ _ _ _ us hl => match us, hl with | [_, _], _ => rfl)
    M_Keep_init := (⟨a_Keep_init, i_Keep_init, k_Keep_init⟩)
    f_Keep_size := (f_Keep_size)
    d_Keep_size := (PySem.W.fnOf "size" "Keep.size" (defArgs s_Keep_size) (defBody s_Keep_size) (defScope s_Keep_size) .none kV_Keep_size dc_Keep_size pm_Keep_size an_Keep_size cd_Keep_size ct_Keep_size)
    F_Keep_size := (fun_mk (st := s_Keep_size) l_Keep_size c_Keep_size k_Keep_size)
    b_Keep_size := ((fun_mk (st := s_Keep_size) l_Keep_size c_Keep_size k_Keep_size).binds (ps := P_Keep_size) fun _ _ _ _ _ _ us hl => match us, hl with | [_], _ => rfl)
    pr_Keep_size := pr_Keep_size
    V_Keep_size := (⟨pa_Keep_size, pb_Keep_size, pc_Keep_size, ⟨rs_Keep_size, pd_Keep_size⟩⟩)
    f_Keep_eq := (f_Keep_eq)
    d_Keep_eq := (PySem.W.fnOf "__eq__" "Keep.__eq__" (defArgs s_Keep_eq) (defBody s_Keep_eq) (defScope s_Keep_eq) .none kV_Keep_eq dc_Keep_eq pm_Keep_eq an_Keep_eq cd_Keep_eq ct_Keep_eq)
    F_Keep_eq := (fun_mk (st := s_Keep_eq) l_Keep_eq c_Keep_eq k_Keep_eq)
    b_Keep_eq := ((fun_mk (st := s_Keep_eq) l_Keep_eq c_Keep_eq k_Keep_eq).binds (ps := P_Keep_eq) fun _ _ _ _ _ _ us hl => match us, hl with | [_, _], _ => rfl)
    M_Keep_eq := (⟨a_Keep_eq, i_Keep_eq, k_Keep_eq⟩)
    f_Lean_init := (f_Lean_init)
    d_Lean_init := (PySem.W.fnOf "__init__" "Lean.__init__" (defArgs s_Lean_init) (defBody s_Lean_init) (defScope s_Lean_init) .none kV_Lean_init dc_Lean_init pm_Lean_init an_Lean_init cd_Lean_init ct_Lean_init)
    F_Lean_init := (fun_mk (st := s_Lean_init) l_Lean_init c_Lean_init k_Lean_init)
    b_Lean_init := ((fun_mk (st := s_Lean_init) l_Lean_init c_Lean_init k_Lean_init).binds (ps := P_Lean_init) fun _ _ _ _ _ _ us hl => match us, hl with | [_, _], _ => rfl)
    M_Lean_init := (⟨a_Lean_init, i_Lean_init, k_Lean_init⟩)
    f_Lean_size := (f_Lean_size)
    d_Lean_size := (PySem.W.fnOf "size" "Lean.size" (defArgs s_Lean_size) (defBody s_Lean_size) (defScope s_Lean_size) .none kV_Lean_size dc_Lean_size pm_Lean_size an_Lean_size cd_Lean_size ct_Lean_size)
    F_Lean_size := (fun_mk (st := s_Lean_size) l_Lean_size c_Lean_size k_Lean_size)
    b_Lean_size := ((fun_mk (st := s_Lean_size) l_Lean_size c_Lean_size k_Lean_size).binds (ps := P_Lean_size) fun _ _ _ _ _ _ us hl => match us, hl with | [_], _ => rfl)
    pr_Lean_size := pr_Lean_size
    V_Lean_size := (⟨pa_Lean_size, pb_Lean_size, pc_Lean_size, ⟨rs_Lean_size, pd_Lean_size⟩⟩)
    f_Lean_eq := (f_Lean_eq)
    d_Lean_eq := (PySem.W.fnOf "__eq__" "Lean.__eq__" (defArgs s_Lean_eq) (defBody s_Lean_eq) (defScope s_Lean_eq) .none kV_Lean_eq dc_Lean_eq pm_Lean_eq an_Lean_eq cd_Lean_eq ct_Lean_eq)
    F_Lean_eq := (fun_mk (st := s_Lean_eq) l_Lean_eq c_Lean_eq k_Lean_eq)
    b_Lean_eq := ((fun_mk (st := s_Lean_eq) l_Lean_eq c_Lean_eq k_Lean_eq).binds (ps := P_Lean_eq) fun _ _ _ _ _ _ us hl => match us, hl with | [_, _], _ => rfl)
    M_Lean_eq := (⟨a_Lean_eq, i_Lean_eq, k_Lean_eq⟩)
    f_Dig_init := (f_Dig_init)
    d_Dig_init := (PySem.W.fnOf "__init__" "Dig.__init__" (defArgs s_Dig_init) (defBody s_Dig_init) (defScope s_Dig_init) .none kV_Dig_init dc_Dig_init pm_Dig_init an_Dig_init cd_Dig_init ct_Dig_init)
    F_Dig_init := (fun_mk (st := s_Dig_init) l_Dig_init c_Dig_init k_Dig_init)
    b_Dig_init := ((fun_mk (st := s_Dig_init) l_Dig_init c_Dig_init k_Dig_init).binds (ps := P_Dig_init) fun _ _ _ _ _ _ us hl => match us, hl with | [_, _], _ => rfl)
    M_Dig_init := (⟨a_Dig_init, i_Dig_init, k_Dig_init⟩)
    f_Dig_size := (f_Dig_size)
    d_Dig_size := (PySem.W.fnOf "size" "Dig.size" (defArgs s_Dig_size) (defBody s_Dig_size) (defScope s_Dig_size) .none kV_Dig_size dc_Dig_size pm_Dig_size an_Dig_size cd_Dig_size ct_Dig_size)
    F_Dig_size := (fun_mk (st := s_Dig_size) l_Dig_size c_Dig_size k_Dig_size)
    b_Dig_size := ((fun_mk (st := s_Dig_size) l_Dig_size c_Dig_size k_Dig_size).binds (ps := P_Dig_size) fun _ _ _ _ _ _ us hl => match us, hl with | [_], _ => rfl)
    pr_Dig_size := pr_Dig_size
    V_Dig_size := (⟨pa_Dig_size, pb_Dig_size, pc_Dig_size, ⟨rs_Dig_size, pd_Dig_size⟩⟩)
    f_Dig_eq := (f_Dig_eq)
    d_Dig_eq := (PySem.W.fnOf "__eq__" "Dig.__eq__" (defArgs s_Dig_eq) (defBody s_Dig_eq) (defScope s_Dig_eq) .none kV_Dig_eq dc_Dig_eq pm_Dig_eq an_Dig_eq cd_Dig_eq ct_Dig_eq)
    F_Dig_eq := (fun_mk (st := s_Dig_eq) l_Dig_eq c_Dig_eq k_Dig_eq)
    b_Dig_eq := ((fun_mk (st := s_Dig_eq) l_Dig_eq c_Dig_eq k_Dig_eq).binds (ps := P_Dig_eq) fun _ _ _ _ _ _ us hl => match us, hl with | [_, _], _ => rfl)
    M_Dig_eq := (⟨a_Dig_eq, i_Dig_eq, k_Dig_eq⟩)
    f_Script_init := (f_Script_init)
    d_Script_init := (PySem.W.fnOf "__init__" "Script.__init__" (defArgs s_Script_init) (defBody s_Script_init) (defScope s_Script_init) (.ref T_Script_init) kV_Script_init dc_Script_init pm_Script_init an_Script_init cd_Script_init ct_Script_init)
    F_Script_init := (⟨⟨oc_Script_init, od_Script_init, (.ref T_Script_init), kV_Script_init, dc_Script_init, pm_Script_init, an_Script_init, cd_Script_init, ct_Script_init, sl_Script_init, rfl, l_Script_init, c_Script_init⟩, k_Script_init⟩)
    b_Script_init := (fun s us X hl => match us, hl with | [_, _], _ => BindsTo.of_defaults (T := T_Script_init) rfl (X _ _ ld_Script_init) rfl rfl rfl)
    b1_Script_init := (fun s us X hl => match us, (show us.length = 1 by simpa using hl) with | [_], _ => BindsTo.of_defaults (T := T_Script_init) rfl (X _ _ ld_Script_init) rfl rfl rfl)
    M_Script_init := (⟨a_Script_init, i_Script_init, k_Script_init⟩)
    f_Script_period := (f_Script_period)
    d_Script_period := (PySem.W.fnOf "period" "Script.period" (defArgs s_Script_period) (defBody s_Script_period) (defScope s_Script_period) .none kV_Script_period dc_Script_period pm_Script_period an_Script_period cd_Script_period ct_Script_period)
    F_Script_period := (fun_mk (st := s_Script_period) l_Script_period c_Script_period k_Script_period)
    b_Script_period := ((fun_mk (st := s_Script_period) l_Script_period c_Script_period k_Script_period).binds (ps := P_Script_period) fun _ _ _ _ _ _ us hl => match us, hl with | [_], _ => rfl)
    pr_Script_period := pr_Script_period
    V_Script_period := (⟨pa_Script_period, pb_Script_period, pc_Script_period, ⟨rs_Script_period, pd_Script_period⟩⟩)
    f_Script_len := (f_Script_len)
    d_Script_len := (PySem.W.fnOf "__len__" "Script.__len__" (defArgs s_Script_len) (defBody s_Script_len) (defScope s_Script_len) .none kV_Script_len dc_Script_len pm_Script_len an_Script_len cd_Script_len ct_Script_len)
    F_Script_len := (fun_mk (st := s_Script_len) l_Script_len c_Script_len k_Script_len)
    b_Script_len := ((fun_mk (st := s_Script_len) l_Script_len c_Script_len k_Script_len).binds (ps := P_Script_len) fun _ _ _ _ _ _ us hl => match us, hl with | [_], _ => rfl)
    M_Script_len := (⟨a_Script_len, i_Script_len, k_Script_len⟩)
    f_Script_iter := (f_Script_iter)
    d_Script_iter := (PySem.W.fnOf "__iter__" "Script.__iter__" (defArgs s_Script_iter) (defBody s_Script_iter) (defScope s_Script_iter) .none kV_Script_iter dc_Script_iter pm_Script_iter an_Script_iter cd_Script_iter ct_Script_iter)
    F_Script_iter := (fun_mk (st := s_Script_iter) l_Script_iter c_Script_iter k_Script_iter)
    b_Script_iter := ((fun_mk (st := s_Script_iter) l_Script_iter c_Script_iter k_Script_iter).binds (ps := P_Script_iter) fun _ _ _ _ _ _ us hl => match us, hl with | [_], _ => rfl)
    M_Script_iter := (⟨a_Script_iter, i_Script_iter, k_Script_iter⟩)
    f_Script_getitem := (f_Script_getitem)
    d_Script_getitem := (PySem.W.fnOf "__getitem__" "Script.__getitem__" (defArgs s_Script_getitem) (defBody s_Script_getitem) (defScope s_Script_getitem) .none kV_Script_getitem dc_Script_getitem pm_Script_getitem an_Script_getitem cd_Script_getitem ct_Script_getitem)
    F_Script_getitem := (fun_mk (st := s_Script_getitem) l_Script_getitem c_Script_getitem k_Script_getitem)
    b_Script_getitem := ((fun_mk (st := s_Script_getitem) l_Script_getitem c_Script_getitem k_Script_getitem).binds (ps := P_Script_getitem) fun _ _ _ _ _ _ us hl => match us, hl with | [_, _], _ => rfl)
    M_Script_getitem := (⟨a_Script_getitem, i_Script_getitem, k_Script_getitem⟩)
    f_Script_eq := (f_Script_eq)
    d_Script_eq := (PySem.W.fnOf "__eq__" "Script.__eq__" (defArgs s_Script_eq) (defBody s_Script_eq) (defScope s_Script_eq) .none kV_Script_eq dc_Script_eq pm_Script_eq an_Script_eq cd_Script_eq ct_Script_eq)
    F_Script_eq := (fun_mk (st := s_Script_eq) l_Script_eq c_Script_eq k_Script_eq)
    b_Script_eq := ((fun_mk (st := s_Script_eq) l_Script_eq c_Script_eq k_Script_eq).binds (ps := P_Script_eq) fun _ _ _ _ _ _ us hl => match us, hl with | [_, _], _ => rfl)
    M_Script_eq := (⟨a_Script_eq, i_Script_eq, k_Script_eq⟩)
    f_Script_add := (f_Script_add)
    d_Script_add := (PySem.W.fnOf "__add__" "Script.__add__" (defArgs s_Script_add) (defBody s_Script_add) (defScope s_Script_add) .none kV_Script_add dc_Script_add pm_Script_add an_Script_add cd_Script_add ct_Script_add)
    F_Script_add := (fun_mk (st := s_Script_add) l_Script_add c_Script_add k_Script_add)
    b_Script_add := ((fun_mk (st := s_Script_add) l_Script_add c_Script_add k_Script_add).binds (ps := P_Script_add) fun _ _ _ _ _ _ us hl => match us, hl with | [_, _], _ => rfl)
    M_Script_add := (⟨a_Script_add, i_Script_add, k_Script_add⟩)
    f_Script_mul := (f_Script_mul)
    d_Script_mul := (PySem.W.fnOf "__mul__" "Script.__mul__" (defArgs s_Script_mul) (defBody s_Script_mul) (defScope s_Script_mul) .none kV_Script_mul dc_Script_mul pm_Script_mul an_Script_mul cd_Script_mul ct_Script_mul)
    F_Script_mul := (fun_mk (st := s_Script_mul) l_Script_mul c_Script_mul k_Script_mul)
    b_Script_mul := ((fun_mk (st := s_Script_mul) l_Script_mul c_Script_mul k_Script_mul).binds (ps := P_Script_mul) fun _ _ _ _ _ _ us hl => match us, hl with | [_, _], _ => rfl)
    M_Script_mul := (⟨a_Script_mul, i_Script_mul, k_Script_mul⟩)
    f_Script_without := (f_Script_without)
    d_Script_without := (PySem.W.fnOf "without" "Script.without" (defArgs s_Script_without) (defBody s_Script_without) (defScope s_Script_without) .none kV_Script_without dc_Script_without pm_Script_without an_Script_without cd_Script_without ct_Script_without)
    F_Script_without := (fun_mk (st := s_Script_without) l_Script_without c_Script_without k_Script_without)
    b_Script_without := ((fun_mk (st := s_Script_without) l_Script_without c_Script_without k_Script_without).binds (ps := P_Script_without) fun _ _ _ _ _ _ us hl => match us, hl with | [_, _], _ => rfl)
    M_Script_without := (⟨a_Script_without, i_Script_without, k_Script_without⟩)
    L_File := (⟨⟨pg_File, hd_File, po_File, sa_File⟩, ha_File, ohn, otk, mr_File⟩)
    K_File := (⟨mk_File, a_File_init, i_File_init, kc_File⟩)
    A_File_row := (na_File_row)
    L_Step := (⟨⟨pg_Step, hd_Step, po_Step, sa_Step⟩, ha_Step, ohn, otk, mr_Step⟩)
    K_Step := (⟨mk_Step, ii_Step, kc_Step, mr_Step⟩)
    L_Full := (⟨⟨pg_Full, hd_Full, po_Full, sa_Full⟩, ha_Full, ohn, otk, mr_Full⟩)
    K_Full := (⟨mk_Full, ii_Full, kc_Full, mr_Full⟩)
    L_Keep := (⟨⟨pg_Keep, hd_Keep, po_Keep, sa_Keep⟩, ha_Keep, ohn, otk, mr_Keep⟩)
    K_Keep := (⟨mk_Keep, a_Keep_init, i_Keep_init, kc_Keep⟩)
    A_Keep_wide := (na_Keep_wide)
    L_Lean := (⟨⟨pg_Lean, hd_Lean, po_Lean, sa_Lean⟩, ha_Lean, ohn, otk, mr_Lean⟩)
    K_Lean := (⟨mk_Lean, a_Lean_init, i_Lean_init, kc_Lean⟩)
    A_Lean_wide := (na_Lean_wide)
    L_Dig := (⟨⟨pg_Dig, hd_Dig, po_Dig, sa_Dig⟩, ha_Dig, ohn, otk, mr_Dig⟩)
    K_Dig := (⟨mk_Dig, a_Dig_init, i_Dig_init, kc_Dig⟩)
    A_Dig_wide := (na_Dig_wide)
    L_Script := (⟨⟨pg_Script, hd_Script, po_Script, sa_Script⟩, ha_Script, ohn, otk, mr_Script⟩)
    K_Script := (⟨mk_Script, a_Script_init, i_Script_init, kc_Script⟩)
    A_Script_rows := (na_Script_rows)
    ic_Dig := (ic_Dig)
    tc_Dig := (tc_Dig)
    ic_File := (ic_File)
    tc_File := (tc_File)
    ic_Full := (ic_Full)
    tc_Full := (tc_Full)
    ic_Keep := (ic_Keep)
    tc_Keep := (tc_Keep)
    ic_Lean := (ic_Lean)
    tc_Lean := (tc_Lean)
    ic_Script := (ic_Script)
    tc_Script := (tc_Script)
    ic_Step := (ic_Step)
    tc_Step := (tc_Step)
    ne_File := (ne_File)
    fi_File_getitem := (fi_File_getitem)
    ne_Full := (ne_Full)
    ne_Keep := (ne_Keep)
    ne_Lean := (ne_Lean)
    ne_Dig := (ne_Dig)
    ne_Script := (ne_Script)
    fi_Script_getitem := (fi_Script_getitem)
    sf_Script := (sf_Script)
    is_Script := (isi_Script)
    bo_Script_add := (by rw [show PySem.dunder (Operator.info .Add).2 = ("__add__" : Str) from by decide +kernel]; exact a_Script_add)
    bo_Script_mul := (by rw [show PySem.dunder (Operator.info .Mult).2 = ("__mul__" : Str) from by decide +kernel]; exact a_Script_mul)
    rr_Script_mul := (by rw [show dunderR (Operator.info .Mult).2 = ("__rmul__" : Str) from by decide +kernel]; exact rr_Script_mul)
    fo_Script_mul := (fo_Script_mul)
    ro_Script_mul := (ro_Script_mul)
    im_Script_mul := (by rw [show PySem.dunder (Operator.info .Mult).2 = ("__mul__" : Str) from by decide +kernel]; exact im_Script_mul)
    ir_Script_mul := (by rw [show dunderR (Operator.info .Mult).2 = ("__rmul__" : Str) from by decide +kernel]; exact ir_Script_mul)
    s_File_Dig := (kit_rr2 ic_Dig tc_Dig ms_File s_File_Dig)
    s_File_File := (kit_self)
    s_File_Full := (kit_rr2 ic_Full tc_Full ms_File s_File_Full)
    s_File_Keep := (kit_rr2 ic_Keep tc_Keep ms_File s_File_Keep)
    s_File_Lean := (kit_rr2 ic_Lean tc_Lean ms_File s_File_Lean)
    s_File_Script := (kit_rr2 ic_Script tc_Script ms_File s_File_Script)
    s_File_Step := (kit_rr2 ic_Step tc_Step ms_File s_File_Step)
    si_File_bool := (s_File_bool)
    si_File_int := (s_File_int)
    si_File_list := (s_File_list)
    si_File_str := (s_File_str)
    nf_Full_File := (nf_Full_File)
    nf_Keep_File := (nf_Keep_File)
    nf_Lean_File := (nf_Lean_File)
    nf_Dig_File := (nf_Dig_File)
    nf_Script_File := (nf_Script_File)
    s_Step_Dig := (kit_rr2 ic_Dig tc_Dig ms_Step s_Step_Dig)
    s_Step_File := (kit_rr2 ic_File tc_File ms_Step s_Step_File)
    s_Step_Full := (kit_rr2 ic_Full tc_Full ms_Step s_Step_Full)
    s_Step_Keep := (kit_rr2 ic_Keep tc_Keep ms_Step s_Step_Keep)
    s_Step_Lean := (kit_rr2 ic_Lean tc_Lean ms_Step s_Step_Lean)
    s_Step_Script := (kit_rr2 ic_Script tc_Script ms_Step s_Step_Script)
    s_Step_Step := (kit_self)
    si_Step_bool := (s_Step_bool)
    si_Step_int := (s_Step_int)
    si_Step_list := (s_Step_list)
    si_Step_str := (s_Step_str)
    nf_File_Step := (nf_File_Step)
    nf_Full_Step := (nf_Full_Step)
    nf_Keep_Step := (nf_Keep_Step)
    nf_Lean_Step := (nf_Lean_Step)
    nf_Dig_Step := (nf_Dig_Step)
    nf_Script_Step := (nf_Script_Step)
    s_Full_Dig := (kit_rr2 ic_Dig tc_Dig ms_Full s_Full_Dig)
    s_Full_File := (kit_rr2 ic_File tc_File ms_Full s_Full_File)
    s_Full_Full := (kit_self)
    s_Full_Keep := (kit_rr2 ic_Keep tc_Keep ms_Full s_Full_Keep)
    s_Full_Lean := (kit_rr2 ic_Lean tc_Lean ms_Full s_Full_Lean)
    s_Full_Script := (kit_rr2 ic_Script tc_Script ms_Full s_Full_Script)
    s_Full_Step := (kit_rr2 ic_Step tc_Step ms_Full s_Full_Step)
    si_Full_bool := (s_Full_bool)
    si_Full_int := (s_Full_int)
    si_Full_list := (s_Full_list)
    si_Full_str := (s_Full_str)
    nf_File_Full := (nf_File_Full)
    nf_Keep_Full := (nf_Keep_Full)
    nf_Lean_Full := (nf_Lean_Full)
    nf_Dig_Full := (nf_Dig_Full)
    nf_Script_Full := (nf_Script_Full)
    s_Keep_Dig := (kit_rr2 ic_Dig tc_Dig ms_Keep s_Keep_Dig)
    s_Keep_File := (kit_rr2 ic_File tc_File ms_Keep s_Keep_File)
    s_Keep_Full := (kit_rr2 ic_Full tc_Full ms_Keep s_Keep_Full)
    s_Keep_Keep := (kit_self)
    s_Keep_Lean := (kit_rr2 ic_Lean tc_Lean ms_Keep s_Keep_Lean)
    s_Keep_Script := (kit_rr2 ic_Script tc_Script ms_Keep s_Keep_Script)
    s_Keep_Step := (kit_rr2 ic_Step tc_Step ms_Keep s_Keep_Step)
    si_Keep_bool := (s_Keep_bool)
    si_Keep_int := (s_Keep_int)
    si_Keep_list := (s_Keep_list)
    si_Keep_str := (s_Keep_str)
    nf_File_Keep := (nf_File_Keep)
    nf_Full_Keep := (nf_Full_Keep)
    nf_Lean_Keep := (nf_Lean_Keep)
    nf_Dig_Keep := (nf_Dig_Keep)
    nf_Script_Keep := (nf_Script_Keep)
    s_Lean_Dig := (kit_rr2 ic_Dig tc_Dig ms_Lean s_Lean_Dig)
    s_Lean_File := (kit_rr2 ic_File tc_File ms_Lean s_Lean_File)
    s_Lean_Full := (kit_rr2 ic_Full tc_Full ms_Lean s_Lean_Full)
    s_Lean_Keep := (kit_rr2 ic_Keep tc_Keep ms_Lean s_Lean_Keep)
    s_Lean_Lean := (kit_self)
    s_Lean_Script := (kit_rr2 ic_Script tc_Script ms_Lean s_Lean_Script)
    s_Lean_Step := (kit_rr2 ic_Step tc_Step ms_Lean s_Lean_Step)
    si_Lean_bool := (s_Lean_bool)
    si_Lean_int := (s_Lean_int)
    si_Lean_list := (s_Lean_list)
    si_Lean_str := (s_Lean_str)
    nf_File_Lean := (nf_File_Lean)
    nf_Full_Lean := (nf_Full_Lean)
    nf_Keep_Lean := (nf_Keep_Lean)
    nf_Dig_Lean := (nf_Dig_Lean)
    nf_Script_Lean := (nf_Script_Lean)
    s_Dig_Dig := (kit_self)
    s_Dig_File := (kit_rr2 ic_File tc_File ms_Dig s_Dig_File)
    s_Dig_Full := (kit_rr2 ic_Full tc_Full ms_Dig s_Dig_Full)
    s_Dig_Keep := (kit_rr2 ic_Keep tc_Keep ms_Dig s_Dig_Keep)
    s_Dig_Lean := (kit_rr2 ic_Lean tc_Lean ms_Dig s_Dig_Lean)
    s_Dig_Script := (kit_rr2 ic_Script tc_Script ms_Dig s_Dig_Script)
    s_Dig_Step := (kit_rr2 ic_Step tc_Step ms_Dig s_Dig_Step)
    si_Dig_bool := (s_Dig_bool)
    si_Dig_int := (s_Dig_int)
    si_Dig_list := (s_Dig_list)
    si_Dig_str := (s_Dig_str)
    nf_File_Dig := (nf_File_Dig)
    nf_Full_Dig := (nf_Full_Dig)
    nf_Keep_Dig := (nf_Keep_Dig)
    nf_Lean_Dig := (nf_Lean_Dig)
    nf_Script_Dig := (nf_Script_Dig)
    s_Script_Dig := (kit_rr2 ic_Dig tc_Dig ms_Script s_Script_Dig)
    s_Script_File := (kit_rr2 ic_File tc_File ms_Script s_Script_File)
    s_Script_Full := (kit_rr2 ic_Full tc_Full ms_Script s_Script_Full)
    s_Script_Keep := (kit_rr2 ic_Keep tc_Keep ms_Script s_Script_Keep)
    s_Script_Lean := (kit_rr2 ic_Lean tc_Lean ms_Script s_Script_Lean)
    s_Script_Script := (kit_self)
    s_Script_Step := (kit_rr2 ic_Step tc_Step ms_Script s_Script_Step)
    si_Script_bool := (s_Script_bool)
    si_Script_int := (s_Script_int)
    si_Script_list := (s_Script_list)
    si_Script_str := (s_Script_str)
    nf_File_Script := (nf_File_Script)
    nf_Full_Script := (nf_Full_Script)
    nf_Keep_Script := (nf_Keep_Script)
    nf_Lean_Script := (nf_Lean_Script)
    nf_Dig_Script := (nf_Dig_Script)
    C_InvalidFile := (C_InvalidFile)
    I_InvalidFile := (I_InvalidFile)
    mc_InvalidFile := (PySem.W.mg_of X G ac_InvalidFile)
    S_InvalidFile := ({ T := ⟨⟨nm_InvalidFile, q_InvalidFile, NN_InvalidFile, bs_InvalidFile, _, sn_InvalidFile, sub_InvalidFile, ab_InvalidFile, col_InvalidFile, dd_InvalidFile, m0_InvalidFile, m1_InvalidFile, m2_InvalidFile, m3_InvalidFile, m5_InvalidFile, xL_InvalidFile, by first | rfl | decide +kernel⟩, sa_InvalidFile, eC_InvalidFile, tC_InvalidFile, kC_InvalidFile⟩, iC := i_InvalidFile, tI := t_InvalidFile, nf := nb_InvalidFile, al := al_InvalidFile, sV := sV_InvalidFile, sC := sC_InvalidFile, op := zop, tp := by decide +kernel, ne := by decide, nd := by decide, fn := ⟨oc_InvalidFile, od_InvalidFile, sl_InvalidFile, "__init__", "InvalidFile.__init__", defArgs si_InvalidFile, defScope si_InvalidFile, .ref T_InvalidFile, kV_InvalidFile, dc_InvalidFile, pm_InvalidFile, an_InvalidFile, cda_InvalidFile, ct_InvalidFile, cc_InvalidFile, ⟨10, 8, 10, 13⟩, ⟨10, 8, 10, 15⟩, ⟨10, 8, 10, 24⟩, ⟨10, 25, 10, 30⟩, ⟨10, 8, 10, 31⟩, ⟨10, 8, 10, 31⟩, ⟨11, 8, 11, 12⟩, ⟨11, 8, 11, 18⟩, ⟨11, 21, 11, 26⟩, ⟨11, 8, 11, 26⟩, { arg := "self", annotation := none, pos := ⟨9, 17, 9, 21⟩ }, ccl_InvalidFile, cdd_InvalidFile, vs_InvalidFile, ccs_InvalidFile, file_InvalidFile, tf_InvalidFile, cl_InvalidFile, cld_InvalidFile, csl_InvalidFile, l_InvalidFile, cd_InvalidFile, by rfl, by rfl, by rfl, by rfl, by rfl, by decide +kernel, by rfl, by rfl, by rfl, by rfl, cr_InvalidFile, v2_InvalidFile, fl_InvalidFile, clc_InvalidFile, (fun s us X hl => match us, hl with | [_, _], _ => BindsTo.of_defaults (T := T_InvalidFile) rfl (X _ _ ld_InvalidFile) rfl rfl rfl), fun _ => ⟨_, rfl⟩⟩ })
    x_InvalidFile := (⟨ga_InvalidFile, gg_InvalidFile, eC_InvalidFile, hC_InvalidFile⟩)
    e_InvalidFile_InvalidFile := (exm_of eC_InvalidFile iC_InvalidFile tC_InvalidFile s_InvalidFile_InvalidFile)
    C_InvalidNumber := (C_InvalidNumber)
    I_InvalidNumber := (I_InvalidNumber)
    mc_InvalidNumber := (PySem.W.mg_of X G ac_InvalidNumber)
    S_InvalidNumber := ({ T := ⟨⟨nm_InvalidNumber, q_InvalidNumber, NN_InvalidNumber, bs_InvalidNumber, _, sn_InvalidNumber, sub_InvalidNumber, ab_InvalidNumber, col_InvalidNumber, dd_InvalidNumber, m0_InvalidNumber, m1_InvalidNumber, m2_InvalidNumber, m3_InvalidNumber, m5_InvalidNumber, xL_InvalidNumber, by first | rfl | decide +kernel⟩, sa_InvalidNumber, eC_InvalidNumber, tC_InvalidNumber, kC_InvalidNumber⟩, iC := i_InvalidNumber, tI := t_InvalidNumber, nf := nb_InvalidNumber, al := al_InvalidNumber, sV := sV_InvalidNumber, sC := sC_InvalidNumber, op := zop, tp := by decide +kernel, ne := by decide, nd := by decide, fn := ⟨oc_InvalidNumber, od_InvalidNumber, sl_InvalidNumber, "__init__", "InvalidNumber.__init__", defArgs si_InvalidNumber, defScope si_InvalidNumber, .ref T_InvalidNumber, kV_InvalidNumber, dc_InvalidNumber, pm_InvalidNumber, an_InvalidNumber, cda_InvalidNumber, ct_InvalidNumber, cc_InvalidNumber, ⟨15, 8, 15, 13⟩, ⟨15, 8, 15, 15⟩, ⟨15, 8, 15, 24⟩, ⟨15, 25, 15, 30⟩, ⟨15, 8, 15, 31⟩, ⟨15, 8, 15, 31⟩, ⟨16, 8, 16, 12⟩, ⟨16, 8, 16, 18⟩, ⟨16, 21, 16, 26⟩, ⟨16, 8, 16, 26⟩, { arg := "self", annotation := none, pos := ⟨14, 17, 14, 21⟩ }, ccl_InvalidNumber, cdd_InvalidNumber, vs_InvalidNumber, ccs_InvalidNumber, file_InvalidNumber, tf_InvalidNumber, cl_InvalidNumber, cld_InvalidNumber, csl_InvalidNumber, l_InvalidNumber, cd_InvalidNumber, by rfl, by rfl, by rfl, by rfl, by rfl, by decide +kernel, by rfl, by rfl, by rfl, by rfl, cr_InvalidNumber, v2_InvalidNumber, fl_InvalidNumber, clc_InvalidNumber, (fun s us X hl => match us, hl with | [_, _], _ => BindsTo.of_defaults (T := T_InvalidNumber) rfl (X _ _ ld_InvalidNumber) rfl rfl rfl), fun _ => ⟨_, rfl⟩⟩ })
    x_InvalidNumber := (⟨ga_InvalidNumber, gg_InvalidNumber, eC_InvalidNumber, hC_InvalidNumber⟩)
    e_InvalidNumber_InvalidNumber := (exm_of eC_InvalidNumber iC_InvalidNumber tC_InvalidNumber s_InvalidNumber_InvalidNumber)
    C_InvalidScript := (C_InvalidScript)
    I_InvalidScript := (I_InvalidScript)
    mc_InvalidScript := (PySem.W.mg_of X G ac_InvalidScript)
    S_InvalidScript := ({ T := ⟨⟨nm_InvalidScript, q_InvalidScript, NN_InvalidScript, bs_InvalidScript, _, sn_InvalidScript, sub_InvalidScript, ab_InvalidScript, col_InvalidScript, dd_InvalidScript, m0_InvalidScript, m1_InvalidScript, m2_InvalidScript, m3_InvalidScript, m5_InvalidScript, xL_InvalidScript, by first | rfl | decide +kernel⟩, sa_InvalidScript, eC_InvalidScript, tC_InvalidScript, kC_InvalidScript⟩, iC := i_InvalidScript, tI := t_InvalidScript, nf := nb_InvalidScript, al := al_InvalidScript, sV := sV_InvalidScript, sC := sC_InvalidScript, op := zop, tp := by decide +kernel, ne := by decide, nd := by decide, fn := ⟨oc_InvalidScript, od_InvalidScript, sl_InvalidScript, "__init__", "InvalidScript.__init__", defArgs si_InvalidScript, defScope si_InvalidScript, .ref T_InvalidScript, kV_InvalidScript, dc_InvalidScript, pm_InvalidScript, an_InvalidScript, cda_InvalidScript, ct_InvalidScript, cc_InvalidScript, ⟨20, 8, 20, 13⟩, ⟨20, 8, 20, 15⟩, ⟨20, 8, 20, 24⟩, ⟨20, 25, 20, 30⟩, ⟨20, 8, 20, 31⟩, ⟨20, 8, 20, 31⟩, ⟨21, 8, 21, 12⟩, ⟨21, 8, 21, 18⟩, ⟨21, 21, 21, 26⟩, ⟨21, 8, 21, 26⟩, { arg := "self", annotation := none, pos := ⟨19, 17, 19, 21⟩ }, ccl_InvalidScript, cdd_InvalidScript, vs_InvalidScript, ccs_InvalidScript, file_InvalidScript, tf_InvalidScript, cl_InvalidScript, cld_InvalidScript, csl_InvalidScript, l_InvalidScript, cd_InvalidScript, by rfl, by rfl, by rfl, by rfl, by rfl, by decide +kernel, by rfl, by rfl, by rfl, by rfl, cr_InvalidScript, v2_InvalidScript, fl_InvalidScript, clc_InvalidScript, (fun s us X hl => match us, hl with | [_, _], _ => BindsTo.of_defaults (T := T_InvalidScript) rfl (X _ _ ld_InvalidScript) rfl rfl rfl), fun _ => ⟨_, rfl⟩⟩ })
    x_InvalidScript := (⟨ga_InvalidScript, gg_InvalidScript, eC_InvalidScript, hC_InvalidScript⟩)
    e_InvalidScript_InvalidScript := (exm_of eC_InvalidScript iC_InvalidScript tC_InvalidScript s_InvalidScript_InvalidScript)
    e_InvalidFile_InvalidNumber := (exm_of eC_InvalidNumber iC_InvalidNumber tC_InvalidNumber s_InvalidFile_InvalidNumber)
    e_InvalidFile_InvalidScript := (exm_of eC_InvalidScript iC_InvalidScript tC_InvalidScript s_InvalidFile_InvalidScript)
    e_InvalidNumber_InvalidFile := (exm_of eC_InvalidFile iC_InvalidFile tC_InvalidFile s_InvalidNumber_InvalidFile)
    e_InvalidNumber_InvalidScript := (exm_of eC_InvalidScript iC_InvalidScript tC_InvalidScript s_InvalidNumber_InvalidScript)
    e_InvalidScript_InvalidFile := (exm_of eC_InvalidFile iC_InvalidFile tC_InvalidFile s_InvalidScript_InvalidFile)
    e_InvalidScript_InvalidNumber := (exm_of eC_InvalidNumber iC_InvalidNumber tC_InvalidNumber s_InvalidScript_InvalidNumber) }
  exact ⟨R.d_law, fun s v => .of_eq rfl, fun base _ _ => ok_law R⟩
theorem walk {q : Program} {loose : List Str} {XP : (Str → Option Value) → Heap → Prop} {YP : World → Heap → Prop} {d : DefRec} {K : Params → Frag} (hdf : d.params.defaults = [])
    (hY : ∀ (w : World) (h : Heap), YP w h → (K w.params).In h)
    (F : ∀ (w : World) (mg : Str → Option Value) (fa : Addr) (h : Heap), (K w.params).In h → h.Ns mainGlobals mg → mg d.name = some (.ref fa) →
      ∃ fd : FuncData, (∀ (s : Shared) (u : Value), BindsTo s fd ⟨[u], []⟩ [("script", u)]) ∧ ∀ base : Heap, (K w.params).In base → base.Ns mainGlobals mg → FnOk PySem.Challenge.rw_keptholes_k24_refused_comparisons.prog w (K w.params) mg base CX0 15 fa fd ["script"] (toSp (K w.params) spLaw)) :
    PySem.W.WalkO q loose XP YP PySem.Challenge.rw_keptholes_k24_refused_comparisons.row.toRowW d [] (fun f vs => PySem.call f vs) :=
  L2.walk_of (l := PySem.Challenge.rw_keptholes_k24_refused_comparisons) (n := 63) (k := 15) (x := "script") (CX := fun _ => CX0) (sp := fun w => toSp (K w.params) spLaw) rfl (by decide) hdf ⟨rfl, by decide, by decide⟩ hY F
    (fun w H a ns hl _ hS => law_sp hl hS) fun _ _ _ _ _ z => z
end Kh
open PySem PySem.W PyProof.Rows in
set_option maxRecDepth 100000 in
set_option maxHeartbeats 0 in
theorem PySem.Challenge.cw_keptholes_k24_refused_comparisons_holds : PySem.Challenge.rw_keptholes_k24_refused_comparisons.Holds := by
  w_on; o_law; k_head; (case hw => w_witness2)
  k_fill
  refine Kh.walk rfl (fun w h Y => PySem.W.kIn_of Y) ?F
  case F =>
    intro w mg fa h KX G hmg
    refine' Kh.all_mk KX G hmg ?z_ValueError ?z_bool ?z_enumerate ?z_int ?z_isinstance ?z_iter ?z_len ?z_list ?z_max ?z_property ?z_range ?z_set ?z_sorted ?z_str ?z_sum ?z_super ?z_tuple ?g_SIGNS ?ac_File ?ac_Step ?ac_Full ?ac_Keep ?ac_Lean ?ac_Dig ?ac_Script ?a_is_whole ?l_is_whole ?c_is_whole ?k_is_whole ?a_check_least ?l_check_least ?c_check_least ?k_check_least ?a_check_within ?l_check_within ?c_check_within ?k_check_within ?a_divisor_of ?l_divisor_of ?c_divisor_of ?k_divisor_of ?a_multiple_of ?l_multiple_of ?c_multiple_of ?k_multiple_of ?a_are_cells ?l_are_cells ?c_are_cells ?k_are_cells ?a_are_steps ?l_are_steps ?c_are_steps ?k_are_steps ?a_check_script ?l_check_script ?c_check_script ?k_check_script ?a_holds_in ?l_holds_in ?c_holds_in ?k_holds_in ?a_is_held ?l_is_held ?c_is_held ?k_is_held ?a_least_of ?l_least_of ?c_least_of ?k_least_of ?a_dug ?l_dug ?c_dug ?k_dug ?a_behind_step ?l_behind_step ?c_behind_step ?k_behind_step ?a_reason_table ?l_reason_table ?c_reason_table ?k_reason_table ?a_moved_table ?l_moved_table ?c_moved_table ?k_moved_table ?a_put_down ?l_put_down ?c_put_down ?k_put_down ?a_more_of ?l_more_of ?c_more_of ?k_more_of ?a_check_two ?l_check_two ?c_check_two ?k_check_two ?a_more_file ?l_more_file ?c_more_file ?k_more_file ?a_never_more ?l_never_more ?c_never_more ?k_never_more ?a_parting_of ?l_parting_of ?c_parting_of ?k_parting_of ?a_parting ?l_parting ?c_parting ?k_parting ?a_alike ?l_alike ?c_alike ?k_alike ?a_exchangeable ?l_exchangeable ?c_exchangeable ?k_exchangeable ?a_needless ?l_needless ?c_needless ?k_needless ?a_keeps_holes ?l_keeps_holes ?c_keeps_holes ?k_keeps_holes ?a_keeps_written ?l_keeps_written ?c_keeps_written ?k_keeps_written ?a_law_purse ?l_law_purse ?c_law_purse ?k_law_purse ?a_law_draw ?l_law_draw ?c_law_draw ?k_law_draw ?a_law_steps ?l_law_steps ?c_law_steps ?k_law_steps ?a_law_step ?l_law_step ?c_law_step ?k_law_step ?a_law_script ?l_law_script ?c_law_script ?k_law_script ?a_law_call ?l_law_call ?c_law_call ?k_law_call ?a_law_told ?l_law_told ?c_law_told ?k_law_told ?a_law ?l_law ?c_law ?k_law ?a_File_init ?i_File_init ?l_File_init ?c_File_init ?k_File_init ?ld_File_init ?pa_File_cells ?pb_File_cells ?pc_File_cells ?pd_File_cells ?l_File_cells ?c_File_cells ?k_File_cells ?a_File_len ?i_File_len ?l_File_len ?c_File_len ?k_File_len ?a_File_iter ?i_File_iter ?l_File_iter ?c_File_iter ?k_File_iter ?a_File_getitem ?i_File_getitem ?l_File_getitem ?c_File_getitem ?k_File_getitem ?a_File_eq ?i_File_eq ?l_File_eq ?c_File_eq ?k_File_eq ?a_Full_eq ?i_Full_eq ?l_Full_eq ?c_Full_eq ?k_Full_eq ?a_Keep_init ?i_Keep_init ?l_Keep_init ?c_Keep_init ?k_Keep_init ?pa_Keep_size ?pb_Keep_size ?pc_Keep_size ?pd_Keep_size ?l_Keep_size ?c_Keep_size ?k_Keep_size ?a_Keep_eq ?i_Keep_eq ?l_Keep_eq ?c_Keep_eq ?k_Keep_eq ?a_Lean_init ?i_Lean_init ?l_Lean_init ?c_Lean_init ?k_Lean_init ?pa_Lean_size ?pb_Lean_size ?pc_Lean_size ?pd_Lean_size ?l_Lean_size ?c_Lean_size ?k_Lean_size ?a_Lean_eq ?i_Lean_eq ?l_Lean_eq ?c_Lean_eq ?k_Lean_eq ?a_Dig_init ?i_Dig_init ?l_Dig_init ?c_Dig_init ?k_Dig_init ?pa_Dig_size ?pb_Dig_size ?pc_Dig_size ?pd_Dig_size ?l_Dig_size ?c_Dig_size ?k_Dig_size ?a_Dig_eq ?i_Dig_eq ?l_Dig_eq ?c_Dig_eq ?k_Dig_eq ?a_Script_init ?i_Script_init ?l_Script_init ?c_Script_init ?k_Script_init ?ld_Script_init ?pa_Script_period ?pb_Script_period ?pc_Script_period ?pd_Script_period ?l_Script_period ?c_Script_period ?k_Script_period ?a_Script_len ?i_Script_len ?l_Script_len ?c_Script_len ?k_Script_len ?a_Script_iter ?i_Script_iter ?l_Script_iter ?c_Script_iter ?k_Script_iter ?a_Script_getitem ?i_Script_getitem ?l_Script_getitem ?c_Script_getitem ?k_Script_getitem ?a_Script_eq ?i_Script_eq ?l_Script_eq ?c_Script_eq ?k_Script_eq ?a_Script_add ?i_Script_add ?l_Script_add ?c_Script_add ?k_Script_add ?a_Script_mul ?i_Script_mul ?l_Script_mul ?c_Script_mul ?k_Script_mul ?a_Script_without ?i_Script_without ?l_Script_without ?c_Script_without ?k_Script_without ?ohn ?otk ?pg_File ?hd_File ?po_File ?sa_File ?ha_File ?mr_File ?ms_File ?mk_File ?kc_File ?na_File_row ?pg_Step ?hd_Step ?po_Step ?sa_Step ?ha_Step ?mr_Step ?ms_Step ?mk_Step ?kc_Step ?ii_Step ?pg_Full ?hd_Full ?po_Full ?sa_Full ?ha_Full ?mr_Full ?ms_Full ?mk_Full ?kc_Full ?ii_Full ?pg_Keep ?hd_Keep ?po_Keep ?sa_Keep ?ha_Keep ?mr_Keep ?ms_Keep ?mk_Keep ?kc_Keep ?na_Keep_wide ?pg_Lean ?hd_Lean ?po_Lean ?sa_Lean ?ha_Lean ?mr_Lean ?ms_Lean ?mk_Lean ?kc_Lean ?na_Lean_wide ?pg_Dig ?hd_Dig ?po_Dig ?sa_Dig ?ha_Dig ?mr_Dig ?ms_Dig ?mk_Dig ?kc_Dig ?na_Dig_wide ?pg_Script ?hd_Script ?po_Script ?sa_Script ?ha_Script ?mr_Script ?ms_Script ?mk_Script ?kc_Script ?na_Script_rows ?ic_Dig ?tc_Dig ?ic_File ?tc_File ?ic_Full ?tc_Full ?ic_Keep ?tc_Keep ?ic_Lean ?tc_Lean ?ic_Script ?tc_Script ?ic_Step ?tc_Step ?ne_File ?fi_File_getitem ?ne_Full ?ne_Keep ?ne_Lean ?ne_Dig ?ne_Script ?fi_Script_getitem ?sf_Script ?isi_Script ?rr_Script_mul ?im_Script_mul ?ir_Script_mul ?s_File_Dig ?s_File_Full ?s_File_Keep ?s_File_Lean ?s_File_Script ?s_File_Step ?s_File_bool ?s_File_int ?s_File_list ?s_File_str ?nf_Full_File ?nf_Keep_File ?nf_Lean_File ?nf_Dig_File ?nf_Script_File ?s_Step_Dig ?s_Step_File ?s_Step_Full ?s_Step_Keep ?s_Step_Lean ?s_Step_Script ?s_Step_bool ?s_Step_int ?s_Step_list ?s_Step_str ?nf_File_Step ?nf_Full_Step ?nf_Keep_Step ?nf_Lean_Step ?nf_Dig_Step ?nf_Script_Step ?s_Full_Dig ?s_Full_File ?s_Full_Keep ?s_Full_Lean ?s_Full_Script ?s_Full_Step ?s_Full_bool ?s_Full_int ?s_Full_list ?s_Full_str ?nf_File_Full ?nf_Keep_Full ?nf_Lean_Full ?nf_Dig_Full ?nf_Script_Full ?s_Keep_Dig ?s_Keep_File ?s_Keep_Full ?s_Keep_Lean ?s_Keep_Script ?s_Keep_Step ?s_Keep_bool ?s_Keep_int ?s_Keep_list ?s_Keep_str ?nf_File_Keep ?nf_Full_Keep ?nf_Lean_Keep ?nf_Dig_Keep ?nf_Script_Keep ?s_Lean_Dig ?s_Lean_File ?s_Lean_Full ?s_Lean_Keep ?s_Lean_Script ?s_Lean_Step ?s_Lean_bool ?s_Lean_int ?s_Lean_list ?s_Lean_str ?nf_File_Lean ?nf_Full_Lean ?nf_Keep_Lean ?nf_Dig_Lean ?nf_Script_Lean ?s_Dig_File ?s_Dig_Full ?s_Dig_Keep ?s_Dig_Lean ?s_Dig_Script ?s_Dig_Step ?s_Dig_bool ?s_Dig_int ?s_Dig_list ?s_Dig_str ?nf_File_Dig ?nf_Full_Dig ?nf_Keep_Dig ?nf_Lean_Dig ?nf_Script_Dig ?s_Script_Dig ?s_Script_File ?s_Script_Full ?s_Script_Keep ?s_Script_Lean ?s_Script_Step ?s_Script_bool ?s_Script_int ?s_Script_list ?s_Script_str ?nf_File_Script ?nf_Full_Script ?nf_Keep_Script ?nf_Lean_Script ?nf_Dig_Script ?zop ?ac_InvalidFile ?ac_HoleError ?xL_InvalidFile ?sa_InvalidFile ?ga_InvalidFile ?gg_InvalidFile ?nb_InvalidFile ?i_InvalidFile ?t_InvalidFile ?l_InvalidFile ?ld_InvalidFile ?cd_InvalidFile ?cr_InvalidFile ?v2_InvalidFile ?fl_InvalidFile ?clc_InvalidFile ?al_InvalidFile ?sV_InvalidFile ?eC_InvalidFile ?sC_InvalidFile ?kC_InvalidFile ?tC_InvalidFile ?hC_InvalidFile ?iC_InvalidFile ?s_InvalidFile_InvalidFile ?ac_InvalidNumber ?xL_InvalidNumber ?sa_InvalidNumber ?ga_InvalidNumber ?gg_InvalidNumber ?nb_InvalidNumber ?i_InvalidNumber ?t_InvalidNumber ?l_InvalidNumber ?ld_InvalidNumber ?cd_InvalidNumber ?cr_InvalidNumber ?v2_InvalidNumber ?fl_InvalidNumber ?clc_InvalidNumber ?al_InvalidNumber ?sV_InvalidNumber ?eC_InvalidNumber ?sC_InvalidNumber ?kC_InvalidNumber ?tC_InvalidNumber ?hC_InvalidNumber ?iC_InvalidNumber ?s_InvalidNumber_InvalidNumber ?ac_InvalidScript ?xL_InvalidScript ?sa_InvalidScript ?ga_InvalidScript ?gg_InvalidScript ?nb_InvalidScript ?i_InvalidScript ?t_InvalidScript ?l_InvalidScript ?ld_InvalidScript ?cd_InvalidScript ?cr_InvalidScript ?v2_InvalidScript ?fl_InvalidScript ?clc_InvalidScript ?al_InvalidScript ?sV_InvalidScript ?eC_InvalidScript ?sC_InvalidScript ?kC_InvalidScript ?tC_InvalidScript ?hC_InvalidScript ?iC_InvalidScript ?s_InvalidScript_InvalidScript ?s_InvalidFile_InvalidNumber ?s_InvalidFile_InvalidScript ?s_InvalidNumber_InvalidFile ?s_InvalidNumber_InvalidScript ?s_InvalidScript_InvalidFile ?s_InvalidScript_InvalidNumber

    (case z_ValueError => k_is)
    (case z_bool => k_is)
    (case z_enumerate => k_is)
    (case z_int => k_is)
    (case z_isinstance => k_is)
    (case z_iter => k_is)
    (case z_len => k_is)
    (case z_list => k_is)
    (case z_max => k_is)
    (case z_property => k_is)
    (case z_range => k_is)
    (case z_set => k_is)
    (case z_sorted => k_is)
    (case z_str => k_is)
    (case z_sum => k_is)
    (case z_super => k_is)
    (case z_tuple => k_is)
    (case g_SIGNS => k_is)
    (case ac_File => k_is)
    (case ac_Step => k_is)
    (case ac_Full => k_is)
    (case ac_Keep => k_is)
    (case ac_Lean => k_is)
    (case ac_Dig => k_is)
    (case ac_Script => k_is)
    (case a_is_whole => k_is)
    (case l_is_whole => k_is)
    (case c_is_whole => k_is)
    (case k_is_whole => k_is)
    (case a_check_least => k_is)
    (case l_check_least => k_is)
    (case c_check_least => k_is)
    (case k_check_least => k_is)
    (case a_check_within => k_is)
    (case l_check_within => k_is)
    (case c_check_within => k_is)
    (case k_check_within => k_is)
    (case a_divisor_of => k_is)
    (case l_divisor_of => k_is)
    (case c_divisor_of => k_is)
    (case k_divisor_of => k_is)
    (case a_multiple_of => k_is)
    (case l_multiple_of => k_is)
    (case c_multiple_of => k_is)
    (case k_multiple_of => k_is)
    (case a_are_cells => k_is)
    (case l_are_cells => k_is)
    (case c_are_cells => k_is)
    (case k_are_cells => k_is)
    (case a_are_steps => k_is)
    (case l_are_steps => k_is)
    (case c_are_steps => k_is)
    (case k_are_steps => k_is)
    (case a_check_script => k_is)
    (case l_check_script => k_is)
    (case c_check_script => k_is)
    (case k_check_script => k_is)
    (case a_holds_in => k_is)
    (case l_holds_in => k_is)
    (case c_holds_in => k_is)
    (case k_holds_in => k_is)
    (case a_is_held => k_is)
    (case l_is_held => k_is)
    (case c_is_held => k_is)
    (case k_is_held => k_is)
    (case a_least_of => k_is)
    (case l_least_of => k_is)
    (case c_least_of => k_is)
    (case k_least_of => k_is)
    (case a_dug => k_is)
    (case l_dug => k_is)
    (case c_dug => k_is)
    (case k_dug => k_is)
    (case a_behind_step => k_is)
    (case l_behind_step => k_is)
    (case c_behind_step => k_is)
    (case k_behind_step => k_is)
    (case a_reason_table => k_is)
    (case l_reason_table => k_is)
    (case c_reason_table => k_is)
    (case k_reason_table => k_is)
    (case a_moved_table => k_is)
    (case l_moved_table => k_is)
    (case c_moved_table => k_is)
    (case k_moved_table => k_is)
    (case a_put_down => k_is)
    (case l_put_down => k_is)
    (case c_put_down => k_is)
    (case k_put_down => k_is)
    (case a_more_of => k_is)
    (case l_more_of => k_is)
    (case c_more_of => k_is)
    (case k_more_of => k_is)
    (case a_check_two => k_is)
    (case l_check_two => k_is)
    (case c_check_two => k_is)
    (case k_check_two => k_is)
    (case a_more_file => k_is)
    (case l_more_file => k_is)
    (case c_more_file => k_is)
    (case k_more_file => k_is)
    (case a_never_more => k_is)
    (case l_never_more => k_is)
    (case c_never_more => k_is)
    (case k_never_more => k_is)
    (case a_parting_of => k_is)
    (case l_parting_of => k_is)
    (case c_parting_of => k_is)
    (case k_parting_of => k_is)
    (case a_parting => k_is)
    (case l_parting => k_is)
    (case c_parting => k_is)
    (case k_parting => k_is)
    (case a_alike => k_is)
    (case l_alike => k_is)
    (case c_alike => k_is)
    (case k_alike => k_is)
    (case a_exchangeable => k_is)
    (case l_exchangeable => k_is)
    (case c_exchangeable => k_is)
    (case k_exchangeable => k_is)
    (case a_needless => k_is)
    (case l_needless => k_is)
    (case c_needless => k_is)
    (case k_needless => k_is)
    (case a_keeps_holes => k_is)
    (case l_keeps_holes => k_is)
    (case c_keeps_holes => k_is)
    (case k_keeps_holes => k_is)
    (case a_keeps_written => k_is)
    (case l_keeps_written => k_is)
    (case c_keeps_written => k_is)
    (case k_keeps_written => k_is)
    (case a_law_purse => k_is)
    (case l_law_purse => k_is)
    (case c_law_purse => k_is)
    (case k_law_purse => k_is)
    (case a_law_draw => k_is)
    (case l_law_draw => k_is)
    (case c_law_draw => k_is)
    (case k_law_draw => k_is)
    (case a_law_steps => k_is)
    (case l_law_steps => k_is)
    (case c_law_steps => k_is)
    (case k_law_steps => k_is)
    (case a_law_step => k_is)
    (case l_law_step => k_is)
    (case c_law_step => k_is)
    (case k_law_step => k_is)
    (case a_law_script => k_is)
    (case l_law_script => k_is)
    (case c_law_script => k_is)
    (case k_law_script => k_is)
    (case a_law_call => k_is)
    (case l_law_call => k_is)
    (case c_law_call => k_is)
    (case k_law_call => k_is)
    (case a_law_told => k_is)
    (case l_law_told => k_is)
    (case c_law_told => k_is)
    (case k_law_told => k_is)
    (case a_law => k_is)
    (case l_law => k_is)
    (case c_law => k_is)
    (case k_law => k_is)
    (case a_File_init => k_is)
    (case i_File_init => k_is)
    (case l_File_init => k_is)
    (case c_File_init => k_is)
    (case k_File_init => k_is)
    (case ld_File_init => k_is)
    (case pa_File_cells => k_is)
    (case pb_File_cells => k_is)
    (case pc_File_cells => k_is)
    (case pd_File_cells => k_is)
    (case l_File_cells => k_is)
    (case c_File_cells => k_is)
    (case k_File_cells => k_is)
    (case a_File_len => k_is)
    (case i_File_len => k_is)
    (case l_File_len => k_is)
    (case c_File_len => k_is)
    (case k_File_len => k_is)
    (case a_File_iter => k_is)
    (case i_File_iter => k_is)
    (case l_File_iter => k_is)
    (case c_File_iter => k_is)
    (case k_File_iter => k_is)
    (case a_File_getitem => k_is)
    (case i_File_getitem => k_is)
    (case l_File_getitem => k_is)
    (case c_File_getitem => k_is)
    (case k_File_getitem => k_is)
    (case a_File_eq => k_is)
    (case i_File_eq => k_is)
    (case l_File_eq => k_is)
    (case c_File_eq => k_is)
    (case k_File_eq => k_is)
    (case a_Full_eq => k_is)
    (case i_Full_eq => k_is)
    (case l_Full_eq => k_is)
    (case c_Full_eq => k_is)
    (case k_Full_eq => k_is)
    (case a_Keep_init => k_is)
    (case i_Keep_init => k_is)
    (case l_Keep_init => k_is)
    (case c_Keep_init => k_is)
    (case k_Keep_init => k_is)
    (case pa_Keep_size => k_is)
    (case pb_Keep_size => k_is)
    (case pc_Keep_size => k_is)
    (case pd_Keep_size => k_is)
    (case l_Keep_size => k_is)
    (case c_Keep_size => k_is)
    (case k_Keep_size => k_is)
    (case a_Keep_eq => k_is)
    (case i_Keep_eq => k_is)
    (case l_Keep_eq => k_is)
    (case c_Keep_eq => k_is)
    (case k_Keep_eq => k_is)
    (case a_Lean_init => k_is)
    (case i_Lean_init => k_is)
    (case l_Lean_init => k_is)
    (case c_Lean_init => k_is)
    (case k_Lean_init => k_is)
    (case pa_Lean_size => k_is)
    (case pb_Lean_size => k_is)
    (case pc_Lean_size => k_is)
    (case pd_Lean_size => k_is)
    (case l_Lean_size => k_is)
    (case c_Lean_size => k_is)
    (case k_Lean_size => k_is)
    (case a_Lean_eq => k_is)
    (case i_Lean_eq => k_is)
    (case l_Lean_eq => k_is)
    (case c_Lean_eq => k_is)
    (case k_Lean_eq => k_is)
    (case a_Dig_init => k_is)
    (case i_Dig_init => k_is)
    (case l_Dig_init => k_is)
    (case c_Dig_init => k_is)
    (case k_Dig_init => k_is)
    (case pa_Dig_size => k_is)
    (case pb_Dig_size => k_is)
    (case pc_Dig_size => k_is)
    (case pd_Dig_size => k_is)
    (case l_Dig_size => k_is)
    (case c_Dig_size => k_is)
    (case k_Dig_size => k_is)
    (case a_Dig_eq => k_is)
    (case i_Dig_eq => k_is)
    (case l_Dig_eq => k_is)
    (case c_Dig_eq => k_is)
    (case k_Dig_eq => k_is)
    (case a_Script_init => k_is)
    (case i_Script_init => k_is)
    (case l_Script_init => k_is)
    (case c_Script_init => k_is)
    (case k_Script_init => k_is)
    (case ld_Script_init => k_is)
    (case pa_Script_period => k_is)
    (case pb_Script_period => k_is)
    (case pc_Script_period => k_is)
    (case pd_Script_period => k_is)
    (case l_Script_period => k_is)
    (case c_Script_period => k_is)
    (case k_Script_period => k_is)
    (case a_Script_len => k_is)
    (case i_Script_len => k_is)
    (case l_Script_len => k_is)
    (case c_Script_len => k_is)
    (case k_Script_len => k_is)
    (case a_Script_iter => k_is)
    (case i_Script_iter => k_is)
    (case l_Script_iter => k_is)
    (case c_Script_iter => k_is)
    (case k_Script_iter => k_is)
    (case a_Script_getitem => k_is)
    (case i_Script_getitem => k_is)
    (case l_Script_getitem => k_is)
    (case c_Script_getitem => k_is)
    (case k_Script_getitem => k_is)
    (case a_Script_eq => k_is)
    (case i_Script_eq => k_is)
    (case l_Script_eq => k_is)
    (case c_Script_eq => k_is)
    (case k_Script_eq => k_is)
    (case a_Script_add => k_is)
    (case i_Script_add => k_is)
    (case l_Script_add => k_is)
    (case c_Script_add => k_is)
    (case k_Script_add => k_is)
    (case a_Script_mul => k_is)
    (case i_Script_mul => k_is)
    (case l_Script_mul => k_is)
    (case c_Script_mul => k_is)
    (case k_Script_mul => k_is)
    (case a_Script_without => k_is)
    (case i_Script_without => k_is)
    (case l_Script_without => k_is)
    (case c_Script_without => k_is)
    (case k_Script_without => k_is)
    (case ohn => first | k_is | rfl | kernel_rfl)
    (case otk => first | k_is | rfl | kernel_rfl)
    (case pg_File => k_is)
    (case hd_File => k_is)
    (case po_File => k_is)
    (case sa_File => k_is)
    (case ha_File => k_is)
    (case mr_File => first | k_is | kernel_rfl | rfl)
    (case ms_File => first | k_is | kernel_rfl | rfl)
    (case mk_File => k_is)
    (case kc_File => k_is)
    (case na_File_row => k_is)
    (case pg_Step => k_is)
    (case hd_Step => k_is)
    (case po_Step => k_is)
    (case sa_Step => k_is)
    (case ha_Step => k_is)
    (case mr_Step => first | k_is | kernel_rfl | rfl)
    (case ms_Step => first | k_is | kernel_rfl | rfl)
    (case mk_Step => k_is)
    (case kc_Step => k_is)
    (case ii_Step => k_is)
    (case pg_Full => k_is)
    (case hd_Full => k_is)
    (case po_Full => k_is)
    (case sa_Full => k_is)
    (case ha_Full => k_is)
    (case mr_Full => first | k_is | kernel_rfl | rfl)
    (case ms_Full => first | k_is | kernel_rfl | rfl)
    (case mk_Full => k_is)
    (case kc_Full => k_is)
    (case ii_Full => k_is)
    (case pg_Keep => k_is)
    (case hd_Keep => k_is)
    (case po_Keep => k_is)
    (case sa_Keep => k_is)
    (case ha_Keep => k_is)
    (case mr_Keep => first | k_is | kernel_rfl | rfl)
    (case ms_Keep => first | k_is | kernel_rfl | rfl)
    (case mk_Keep => k_is)
    (case kc_Keep => k_is)
    (case na_Keep_wide => k_is)
    (case pg_Lean => k_is)
    (case hd_Lean => k_is)
    (case po_Lean => k_is)
    (case sa_Lean => k_is)
    (case ha_Lean => k_is)
    (case mr_Lean => first | k_is | kernel_rfl | rfl)
    (case ms_Lean => first | k_is | kernel_rfl | rfl)
    (case mk_Lean => k_is)
    (case kc_Lean => k_is)
    (case na_Lean_wide => k_is)
    (case pg_Dig => k_is)
    (case hd_Dig => k_is)
    (case po_Dig => k_is)
    (case sa_Dig => k_is)
    (case ha_Dig => k_is)
    (case mr_Dig => first | k_is | kernel_rfl | rfl)
    (case ms_Dig => first | k_is | kernel_rfl | rfl)
    (case mk_Dig => k_is)
    (case kc_Dig => k_is)
    (case na_Dig_wide => k_is)
    (case pg_Script => k_is)
    (case hd_Script => k_is)
    (case po_Script => k_is)
    (case sa_Script => k_is)
    (case ha_Script => k_is)
    (case mr_Script => first | k_is | kernel_rfl | rfl)
    (case ms_Script => first | k_is | kernel_rfl | rfl)
    (case mk_Script => k_is)
    (case kc_Script => k_is)
    (case na_Script_rows => k_is)
    (case ic_Dig => k_is)
    (case tc_Dig => k_is)
    (case ic_File => k_is)
    (case tc_File => k_is)
    (case ic_Full => k_is)
    (case tc_Full => k_is)
    (case ic_Keep => k_is)
    (case tc_Keep => k_is)
    (case ic_Lean => k_is)
    (case tc_Lean => k_is)
    (case ic_Script => k_is)
    (case tc_Script => k_is)
    (case ic_Step => k_is)
    (case tc_Step => k_is)
    (case ne_File => k_is)
    (case fi_File_getitem => k_is)
    (case ne_Full => k_is)
    (case ne_Keep => k_is)
    (case ne_Lean => k_is)
    (case ne_Dig => k_is)
    (case ne_Script => k_is)
    (case fi_Script_getitem => k_is)
    (case sf_Script => first | k_is | kernel_rfl | rfl)
    (case isi_Script => k_is)
    (case rr_Script_mul => k_is)
    (case im_Script_mul => k_is)
    (case ir_Script_mul => k_is)
    (case s_File_Dig => k_is)
    (case s_File_Full => k_is)
    (case s_File_Keep => k_is)
    (case s_File_Lean => k_is)
    (case s_File_Script => k_is)
    (case s_File_Step => k_is)
    (case s_File_bool => k_is)
    (case s_File_int => k_is)
    (case s_File_list => k_is)
    (case s_File_str => k_is)
    (case nf_Full_File => first | k_is | kernel_rfl | rfl)
    (case nf_Keep_File => first | k_is | kernel_rfl | rfl)
    (case nf_Lean_File => first | k_is | kernel_rfl | rfl)
    (case nf_Dig_File => first | k_is | kernel_rfl | rfl)
    (case nf_Script_File => first | k_is | kernel_rfl | rfl)
    (case s_Step_Dig => k_is)
    (case s_Step_File => k_is)
    (case s_Step_Full => k_is)
    (case s_Step_Keep => k_is)
    (case s_Step_Lean => k_is)
    (case s_Step_Script => k_is)
    (case s_Step_bool => k_is)
    (case s_Step_int => k_is)
    (case s_Step_list => k_is)
    (case s_Step_str => k_is)
    (case nf_File_Step => first | k_is | kernel_rfl | rfl)
    (case nf_Full_Step => first | k_is | kernel_rfl | rfl)
    (case nf_Keep_Step => first | k_is | kernel_rfl | rfl)
    (case nf_Lean_Step => first | k_is | kernel_rfl | rfl)
    (case nf_Dig_Step => first | k_is | kernel_rfl | rfl)
    (case nf_Script_Step => first | k_is | kernel_rfl | rfl)
    (case s_Full_Dig => k_is)
    (case s_Full_File => k_is)
    (case s_Full_Keep => k_is)
    (case s_Full_Lean => k_is)
    (case s_Full_Script => k_is)
    (case s_Full_Step => k_is)
    (case s_Full_bool => k_is)
    (case s_Full_int => k_is)
    (case s_Full_list => k_is)
    (case s_Full_str => k_is)
    (case nf_File_Full => first | k_is | kernel_rfl | rfl)
    (case nf_Keep_Full => first | k_is | kernel_rfl | rfl)
    (case nf_Lean_Full => first | k_is | kernel_rfl | rfl)
    (case nf_Dig_Full => first | k_is | kernel_rfl | rfl)
    (case nf_Script_Full => first | k_is | kernel_rfl | rfl)
    (case s_Keep_Dig => k_is)
    (case s_Keep_File => k_is)
    (case s_Keep_Full => k_is)
    (case s_Keep_Lean => k_is)
    (case s_Keep_Script => k_is)
    (case s_Keep_Step => k_is)
    (case s_Keep_bool => k_is)
    (case s_Keep_int => k_is)
    (case s_Keep_list => k_is)
    (case s_Keep_str => k_is)
    (case nf_File_Keep => first | k_is | kernel_rfl | rfl)
    (case nf_Full_Keep => first | k_is | kernel_rfl | rfl)
    (case nf_Lean_Keep => first | k_is | kernel_rfl | rfl)
    (case nf_Dig_Keep => first | k_is | kernel_rfl | rfl)
    (case nf_Script_Keep => first | k_is | kernel_rfl | rfl)
    (case s_Lean_Dig => k_is)
    (case s_Lean_File => k_is)
    (case s_Lean_Full => k_is)
    (case s_Lean_Keep => k_is)
    (case s_Lean_Script => k_is)
    (case s_Lean_Step => k_is)
    (case s_Lean_bool => k_is)
    (case s_Lean_int => k_is)
    (case s_Lean_list => k_is)
    (case s_Lean_str => k_is)
    (case nf_File_Lean => first | k_is | kernel_rfl | rfl)
    (case nf_Full_Lean => first | k_is | kernel_rfl | rfl)
    (case nf_Keep_Lean => first | k_is | kernel_rfl | rfl)
    (case nf_Dig_Lean => first | k_is | kernel_rfl | rfl)
    (case nf_Script_Lean => first | k_is | kernel_rfl | rfl)
    (case s_Dig_File => k_is)
    (case s_Dig_Full => k_is)
    (case s_Dig_Keep => k_is)
    (case s_Dig_Lean => k_is)
    (case s_Dig_Script => k_is)
    (case s_Dig_Step => k_is)
    (case s_Dig_bool => k_is)
    (case s_Dig_int => k_is)
    (case s_Dig_list => k_is)
    (case s_Dig_str => k_is)
    (case nf_File_Dig => first | k_is | kernel_rfl | rfl)
    (case nf_Full_Dig => first | k_is | kernel_rfl | rfl)
    (case nf_Keep_Dig => first | k_is | kernel_rfl | rfl)
    (case nf_Lean_Dig => first | k_is | kernel_rfl | rfl)
    (case nf_Script_Dig => first | k_is | kernel_rfl | rfl)
    (case s_Script_Dig => k_is)
    (case s_Script_File => k_is)
    (case s_Script_Full => k_is)
    (case s_Script_Keep => k_is)
    (case s_Script_Lean => k_is)
    (case s_Script_Step => k_is)
    (case s_Script_bool => k_is)
    (case s_Script_int => k_is)
    (case s_Script_list => k_is)
    (case s_Script_str => k_is)
    (case nf_File_Script => first | k_is | kernel_rfl | rfl)
    (case nf_Full_Script => first | k_is | kernel_rfl | rfl)
    (case nf_Keep_Script => first | k_is | kernel_rfl | rfl)
    (case nf_Lean_Script => first | k_is | kernel_rfl | rfl)
    (case nf_Dig_Script => first | k_is | kernel_rfl | rfl)
    (case zop => k_is)
    (case ac_InvalidFile => k_is)
    (case ac_HoleError => k_is)
    (case xL_InvalidFile => k_is)
    (case sa_InvalidFile => k_is)
    (case ga_InvalidFile => k_is)
    (case gg_InvalidFile => k_is)
    (case nb_InvalidFile => k_is)
    (case i_InvalidFile => k_is)
    (case t_InvalidFile => k_is)
    (case l_InvalidFile => k_is)
    (case ld_InvalidFile => k_is)
    (case cd_InvalidFile => k_is)
    (case cr_InvalidFile => k_is)
    (case v2_InvalidFile => rfl)
    (case fl_InvalidFile => first | rfl | decide +kernel)
    (case clc_InvalidFile => k_is)
    (case al_InvalidFile => first | k_is | ks_is | kernel_rfl)
    (case sV_InvalidFile => k_is)
    (case eC_InvalidFile => k_is)
    (case sC_InvalidFile => first | k_is | kernel_rfl | rfl)
    (case kC_InvalidFile => k_is)
    (case tC_InvalidFile => k_is)
    (case hC_InvalidFile => k_is)
    (case iC_InvalidFile => k_is)
    (case s_InvalidFile_InvalidFile => first | rfl | k_is)
    (case ac_InvalidNumber => k_is)
    (case xL_InvalidNumber => k_is)
    (case sa_InvalidNumber => k_is)
    (case ga_InvalidNumber => k_is)
    (case gg_InvalidNumber => k_is)
    (case nb_InvalidNumber => k_is)
    (case i_InvalidNumber => k_is)
    (case t_InvalidNumber => k_is)
    (case l_InvalidNumber => k_is)
    (case ld_InvalidNumber => k_is)
    (case cd_InvalidNumber => k_is)
    (case cr_InvalidNumber => k_is)
    (case v2_InvalidNumber => rfl)
    (case fl_InvalidNumber => first | rfl | decide +kernel)
    (case clc_InvalidNumber => k_is)
    (case al_InvalidNumber => first | k_is | ks_is | kernel_rfl)
    (case sV_InvalidNumber => k_is)
    (case eC_InvalidNumber => k_is)
    (case sC_InvalidNumber => first | k_is | kernel_rfl | rfl)
    (case kC_InvalidNumber => k_is)
    (case tC_InvalidNumber => k_is)
    (case hC_InvalidNumber => k_is)
    (case iC_InvalidNumber => k_is)
    (case s_InvalidNumber_InvalidNumber => first | rfl | k_is)
    (case ac_InvalidScript => k_is)
    (case xL_InvalidScript => k_is)
    (case sa_InvalidScript => k_is)
    (case ga_InvalidScript => k_is)
    (case gg_InvalidScript => k_is)
    (case nb_InvalidScript => k_is)
    (case i_InvalidScript => k_is)
    (case t_InvalidScript => k_is)
    (case l_InvalidScript => k_is)
    (case ld_InvalidScript => k_is)
    (case cd_InvalidScript => k_is)
    (case cr_InvalidScript => k_is)
    (case v2_InvalidScript => rfl)
    (case fl_InvalidScript => first | rfl | decide +kernel)
    (case clc_InvalidScript => k_is)
    (case al_InvalidScript => first | k_is | ks_is | kernel_rfl)
    (case sV_InvalidScript => k_is)
    (case eC_InvalidScript => k_is)
    (case sC_InvalidScript => first | k_is | kernel_rfl | rfl)
    (case kC_InvalidScript => k_is)
    (case tC_InvalidScript => k_is)
    (case hC_InvalidScript => k_is)
    (case iC_InvalidScript => k_is)
    (case s_InvalidScript_InvalidScript => first | rfl | k_is)
    (case s_InvalidFile_InvalidNumber => k_is)
    (case s_InvalidFile_InvalidScript => k_is)
    (case s_InvalidNumber_InvalidFile => k_is)
    (case s_InvalidNumber_InvalidScript => k_is)
    (case s_InvalidScript_InvalidFile => k_is)
    (case s_InvalidScript_InvalidNumber => k_is)

