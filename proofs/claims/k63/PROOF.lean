import PyProof.Rows.All
import Wide.All
import OpenK.AllK
import Wide.FinOn
import HandS.ForMost
import HandS.ForExc
import HandS.Property
import HandS.CallSlots
import HandS.Walk
import HandS.IsInst
import HandS.Wide
import HandS.WideBits
import HandS.ReplaceLit
import HandS.ReplaceList
import HandS.ExcInit
import HandS.ExcField
import HandS.ExcSuper
import KE.KExcSuper
import HandS.Style
import HandS.Dict
import HandS.More
import PyProof.NeKinds
import HandS.Text
import HandS.StrMore
import PyProof.Draws
import PyProof.EnumMake
import OpenK.KOps
import OpenK.KMeth
import KE.KOpsOwn
import KE.KFmtOwn
import PyProof.FactsAll.object_2
import PyProof.SliceStr2
import HandS.IterVal
import KE.KOwnIter
import PyProof.ListStr
import HandS.TryMany
import PyProof.LongRange
import HandS.TupAny
import HandS.TupSets
import HandS.OwnEq
import HandS.Defaults
import HandS.Deep
import HandS.Conv
import HandS.SortInts
import KE.SortData
import PySem.Challenge.RW_keptholes_k63_whole_writes_seen_in_part
set_option Elab.async false
set_option linter.all false
set_option maxRecDepth 100000
set_option maxHeartbeats 1000000
namespace Kh
open PySem PySem.Spec L2

/-! ### data as trees -/
inductive Dat where
  | non | bl (b : Bool) | int (i : Int) | str (s : Str) | raw (v : V)
  | dic0 | scr (ns : List Int) | lst (xs : List Dat) | tup (xs : List Dat) | obj (C : Addr) (ns : List Str) (xs : List Dat)
  | xn (a dd : Addr) (ns : List Str) (xs : List Dat)
  | at (a : Addr) (d : Dat)

theorem Same.tpl {K : PySem.W.Frag} {H H' : Hp} {a : Addr} {xs : List V} (e : Same H H') (h : SqT K H a xs) : SqT K H' a xs := by
  rcases h with (h | ⟨o, h⟩) | h
  · exact .inl (.inl (e _ _ h))
  · exact .inl (.inr ⟨o, e _ _ h⟩)
  · exact .inr h

mutual
def Den (K : PySem.W.Frag) (G : Hp) : Dat → V → Prop
  | .non, v => v = .non
  | .bl b, v => v = .bl b
  | .int i, v => v = .int i
  | .str s, v => v = .str s
  | .raw u, v => v = u
  | .dic0, v => ∃ a, v = .ref a ∧ G a = some (.dK [])
  | .scr ns, v => ∃ a, v = .ref a ∧ SqL K G a (ns.map V.int)
  | .lst ds, v => ∃ a vs, v = .ref a ∧ G a = some (.lst vs) ∧ DenL K G ds vs
  | .tup ds, v => ∃ a vs, v = .ref a ∧ G a = some (.tup vs) ∧ DenL K G ds vs
  | .obj C ns ds, v => ∃ a dx vs, v = .ref a ∧ G a = some (.ins C dx (ns.zip vs)) ∧ G dx = some (.own a) ∧ DenL K G ds vs
  | .xn a dd ns ds, v => ∃ vs, v = .ref a ∧ G dd = some (.xd (ns.zip vs)) ∧ DenL K G ds vs
  | .at a d, v => v = .ref a ∧ Den K G d v
def DenL (K : PySem.W.Frag) (G : Hp) : List Dat → List V → Prop
  | [], vs => vs = []
  | d :: ds, vs => ∃ v r, vs = v :: r ∧ Den K G d v ∧ DenL K G ds r
end
section
variable {K : PySem.W.Frag} {G G' H H' : Hp}
mutual
theorem Den.mono (h : Same G G') : ∀ (d : Dat) (v : V), Den K G d v → Den K G' d v
  | .non, _, q => by simpa [Den] using q
  | .bl _, _, q => by simpa [Den] using q
  | .int _, _, q => by simpa [Den] using q
  | .str _, _, q => by simpa [Den] using q
  | .raw _, _, q => by simpa [Den] using q
  | .dic0, _, q => by
    simp only [Den] at q ⊢
    obtain ⟨a, e, g⟩ := q
    exact ⟨a, e, h _ _ g⟩
  | .scr _, _, q => by
    simp only [Den] at q ⊢
    obtain ⟨a, e, g⟩ := q
    exact ⟨a, e, h.seq g⟩
  | .lst ds, v, q => by
    simp only [Den] at q ⊢
    obtain ⟨a, vs, e, s, t⟩ := q
    exact ⟨a, vs, e, h _ _ s, DenL.mono h ds vs t⟩
  | .tup ds, v, q => by
    simp only [Den] at q ⊢
    obtain ⟨a, vs, e, s, t⟩ := q
    exact ⟨a, vs, e, h _ _ s, DenL.mono h ds vs t⟩
  | .obj C ns ds, v, q => by
    simp only [Den] at q ⊢
    obtain ⟨a, dx, vs, e, s, s2, t⟩ := q
    exact ⟨a, dx, vs, e, h _ _ s, h _ _ s2, DenL.mono h ds vs t⟩
  | .xn a dd ns ds, v, q => by
    simp only [Den] at q ⊢
    obtain ⟨vs, e, s, t⟩ := q
    exact ⟨vs, e, h _ _ s, DenL.mono h ds vs t⟩
  | .at a d, v, q => by
    simp only [Den] at q ⊢
    exact ⟨q.1, Den.mono h d v q.2⟩
theorem DenL.mono (h : Same G G') : ∀ (ds : List Dat) (vs : List V), DenL K G ds vs → DenL K G' ds vs
  | [], _, q => by simpa [DenL] using q
  | d :: ds, vs, q => by
    simp only [DenL] at q ⊢
    obtain ⟨v, r, e, s, t⟩ := q
    exact ⟨v, r, e, Den.mono h d v s, DenL.mono h ds r t⟩
end
theorem Den.up {d : Dat} {v : V} (q : Den K G d v) (h : Same G G') : Den K G' d v := Den.mono h d v q
theorem DenL.up {ds : List Dat} {vs : List V} (q : DenL K G ds vs) (h : Same G G') : DenL K G' ds vs := DenL.mono h ds vs q
theorem den_lst {a : Addr} {ds : List Dat} {vs : List V} (h : G a = some (.lst vs)) (q : DenL K G ds vs) : Den K G (.lst ds) (.ref a) := by
  simp only [Den]; exact ⟨a, vs, rfl, h, q⟩
theorem den_tup {a : Addr} {ds : List Dat} {vs : List V} (h : G a = some (.tup vs)) (q : DenL K G ds vs) : Den K G (.tup ds) (.ref a) := by
  simp only [Den]; exact ⟨a, vs, rfl, h, q⟩
theorem den_int {i : Int} : Den K G (.int i) (.int i) := by simp only [Den]
theorem den_bl {b : Bool} : Den K G (.bl b) (.bl b) := by simp only [Den]
theorem den_str {s : Str} : Den K G (.str s) (.str s) := by simp only [Den]
theorem den_non : Den K G .non .non := by simp only [Den]
theorem den_raw {v : V} : Den K G (.raw v) v := by simp only [Den]
theorem Den.lst_inv {ds : List Dat} {v : V} (q : Den K G (.lst ds) v) : ∃ a vs, v = .ref a ∧ G a = some (.lst vs) ∧ DenL K G ds vs := by simpa only [Den] using q
theorem Den.tup_inv {ds : List Dat} {v : V} (q : Den K G (.tup ds) v) : ∃ a vs, v = .ref a ∧ G a = some (.tup vs) ∧ DenL K G ds vs := by simpa only [Den] using q
theorem Den.obj_inv {C : Addr} {ns : List Str} {ds : List Dat} {v : V} (q : Den K G (.obj C ns ds) v) : ∃ a dx vs, v = .ref a ∧ G a = some (.ins C dx (ns.zip vs)) ∧ G dx = some (.own a) ∧ DenL K G ds vs := by simpa only [Den] using q
theorem Den.xn_inv {a dd : Addr} {ns : List Str} {ds : List Dat} {v : V} (q : Den K G (.xn a dd ns ds) v) : ∃ vs, v = .ref a ∧ G dd = some (.xd (ns.zip vs)) ∧ DenL K G ds vs := by simpa only [Den] using q
theorem Den.at_inv {a : Addr} {d : Dat} {v : V} (q : Den K G (.at a d) v) : v = .ref a ∧ Den K G d v := by simpa only [Den] using q
theorem den_at {a : Addr} {d : Dat} (h : Den K G d (.ref a)) : Den K G (.at a d) (.ref a) := by simp only [Den, true_and]; exact h
theorem Den.scr_inv {ns : List Int} {v : V} (q : Den K G (.scr ns) v) : ∃ a, v = .ref a ∧ SqL K G a (ns.map V.int) := by simpa only [Den] using q
theorem Den.dic0_inv {v : V} (q : Den K G .dic0 v) : ∃ a, v = .ref a ∧ G a = some (.dK []) := by simpa only [Den] using q
theorem Den.int_inv {i : Int} {v : V} (q : Den K G (.int i) v) : v = .int i := by simpa only [Den] using q
theorem Den.bl_inv {b : Bool} {v : V} (q : Den K G (.bl b) v) : v = .bl b := by simpa only [Den] using q
theorem Den.str_inv {s : Str} {v : V} (q : Den K G (.str s) v) : v = .str s := by simpa only [Den] using q
theorem Den.non_inv {v : V} (q : Den K G .non v) : v = .non := by simpa only [Den] using q
theorem Den.raw_inv {u v : V} (q : Den K G (.raw u) v) : v = u := by simpa only [Den] using q
theorem DenL.nil : DenL K G [] [] := by simp only [DenL]
theorem DenL.cons {d : Dat} {ds : List Dat} {v : V} {vs : List V} (h : Den K G d v) (q : DenL K G ds vs) : DenL K G (d :: ds) (v :: vs) := by
  simp only [DenL]; exact ⟨v, vs, rfl, h, q⟩
theorem DenL.nil_inv {vs : List V} (q : DenL K G [] vs) : vs = [] := by simpa only [DenL] using q
theorem DenL.cons_inv {d : Dat} {ds : List Dat} {vs : List V} (q : DenL K G (d :: ds) vs) : ∃ v r, vs = v :: r ∧ Den K G d v ∧ DenL K G ds r := by simpa only [DenL] using q
theorem DenL.length : ∀ {ds : List Dat} {vs : List V}, DenL K G ds vs → vs.length = ds.length
  | [], _, q => by rw [q.nil_inv]; rfl
  | d :: ds, _, q => by
    obtain ⟨v, r, rfl, _, t⟩ := q.cons_inv
    simp only [List.length_cons, t.length]
theorem DenL.get : ∀ {ds : List Dat} {vs : List V} {i : Nat} {d : Dat}, DenL K G ds vs → ds[i]? = some d → ∃ v, vs[i]? = some v ∧ Den K G d v
  | [], _, _, _, _, e => by simp at e
  | _ :: _, _, 0, _, q, e => by
    obtain ⟨v, r, rfl, h, _⟩ := q.cons_inv
    simp at e; subst e
    exact ⟨v, rfl, h⟩
  | _ :: _, _, i + 1, _, q, e => by
    obtain ⟨v, r, rfl, _, t⟩ := q.cons_inv
    obtain ⟨u, h1, h2⟩ := DenL.get t (i := i) (by simpa using e)
    exact ⟨u, by simpa using h1, h2⟩
theorem DenL.get' {ds : List Dat} {vs : List V} {i : Nat} {v : V} (q : DenL K G ds vs) (e : vs[i]? = some v) : ∃ d, ds[i]? = some d ∧ Den K G d v := by
  have hi : i < ds.length := by rw [← q.length]; exact (List.getElem?_eq_some_iff.mp e).1
  obtain ⟨u, h1, h2⟩ := q.get (List.getElem?_eq_getElem hi)
  rw [e] at h1; cases h1
  exact ⟨_, List.getElem?_eq_getElem hi, h2⟩
theorem DenL.append : ∀ {ds es : List Dat} {vs us : List V}, DenL K G ds vs → DenL K G es us → DenL K G (ds ++ es) (vs ++ us)
  | [], _, _, _, q, r => by rw [q.nil_inv]; exact r
  | _ :: _, _, _, _, q, r => by
    obtain ⟨v, t, rfl, h, q⟩ := q.cons_inv
    exact DenL.cons h (DenL.append q r)
theorem DenL.snoc {ds : List Dat} {d : Dat} {vs : List V} {v : V} (q : DenL K G ds vs) (h : Den K G d v) : DenL K G (ds ++ [d]) (vs ++ [v]) := q.append (.cons h .nil)
theorem DenL.take : ∀ {ds : List Dat} {vs : List V} (n : Nat), DenL K G ds vs → DenL K G (ds.take n) (vs.take n)
  | [], _, n, q => by rw [q.nil_inv]; simp only [List.take_nil]; exact .nil
  | _ :: _, _, 0, q => by simp only [List.take_zero]; exact .nil
  | _ :: _, _, n + 1, q => by
    obtain ⟨v, t, rfl, h, q⟩ := q.cons_inv
    exact DenL.cons h (DenL.take n q)
theorem DenL.drop : ∀ {ds : List Dat} {vs : List V} (n : Nat), DenL K G ds vs → DenL K G (ds.drop n) (vs.drop n)
  | [], _, n, q => by rw [q.nil_inv]; simp only [List.drop_nil]; exact .nil
  | _ :: _, _, 0, q => q
  | _ :: _, _, n + 1, q => by
    obtain ⟨v, t, rfl, h, q⟩ := q.cons_inv
    exact DenL.drop n q
theorem DenL.reverse : ∀ {ds : List Dat} {vs : List V}, DenL K G ds vs → DenL K G ds.reverse vs.reverse
  | [], _, q => by rw [q.nil_inv]; exact .nil
  | _ :: _, _, q => by
    obtain ⟨v, t, rfl, h, q⟩ := q.cons_inv
    simp only [List.reverse_cons]
    exact q.reverse.append (.cons h .nil)
theorem DenL.set {d : Dat} {v : V} (h : Den K G d v) : ∀ {ds : List Dat} {vs : List V} (i : Nat), DenL K G ds vs → DenL K G (ds.set i d) (vs.set i v)
  | [], _, _, q => by rw [q.nil_inv]; exact .nil
  | _ :: _, _, 0, q => by
    obtain ⟨u, t, rfl, _, q⟩ := q.cons_inv
    exact DenL.cons h q
  | _ :: _, _, i + 1, q => by
    obtain ⟨u, t, rfl, g, q⟩ := q.cons_inv
    exact DenL.cons g (DenL.set h i q)
theorem DenL.dropLast {ds : List Dat} {vs : List V} (q : DenL K G ds vs) : DenL K G ds.dropLast vs.dropLast := by
  rw [List.dropLast_eq_take, List.dropLast_eq_take, q.length]
  exact q.take _
/-- lists of ints, texts, bools by their values -/
theorem DenL.ints : ∀ {ns : List Int} {vs : List V}, DenL K G (ns.map Dat.int) vs → vs = ns.map V.int
  | [], _, q => q.nil_inv
  | n :: ns, _, q => by
    obtain ⟨v, t, rfl, h, q⟩ := q.cons_inv
    rw [h.int_inv, DenL.ints q]
    all_goals rfl
theorem denL_ints : ∀ {ns : List Int}, DenL K G (ns.map Dat.int) (ns.map V.int)
  | [] => .nil
  | n :: ns => .cons den_int denL_ints
theorem DenL.strs : ∀ {ns : List Str} {vs : List V}, DenL K G (ns.map Dat.str) vs → vs = ns.map V.str
  | [], _, q => q.nil_inv
  | n :: ns, _, q => by
    obtain ⟨v, t, rfl, h, q⟩ := q.cons_inv
    rw [h.str_inv, DenL.strs q]
    all_goals rfl
theorem denL_strs : ∀ {ns : List Str}, DenL K G (ns.map Dat.str) (ns.map V.str)
  | [] => .nil
  | n :: ns => .cons den_str denL_strs
end

/-! ### the slots -/
abbrev TEnv := List (Option Dat)
def DenE (K : PySem.W.Frag) (τ : TEnv) (G : Hp) (σ : St) : Prop := ∀ (i : Nat) (d : Dat), τ[i]? = some (some d) → ∃ v, σ[i]? = some (some v) ∧ Den K G d v
section
variable {K : PySem.W.Frag} {G G' : Hp} {τ : TEnv} {σ : St}
theorem DenE.up (q : DenE K τ G σ) (h : Same G G') : DenE K τ G' σ := fun i d e => let ⟨v, h1, h2⟩ := q i d e; ⟨v, h1, h2.up h⟩
theorem DenE.unset {i : Nat} (q : DenE K τ G σ) : DenE K (τ.set i none) G (σ.set i none) := fun j e hj => by
  by_cases c : i = j
  · subst c
    have hl : i < τ.length := by
      have := (List.getElem?_eq_some_iff.mp hj).1
      simpa using this
    rw [List.getElem?_set_self hl] at hj
    cases hj
  · rw [List.getElem?_set_ne c] at hj
    obtain ⟨u, h1, h2⟩ := q j e hj
    exact ⟨u, by rw [List.getElem?_set_ne c]; exact h1, h2⟩
theorem DenE.set {i : Nat} {d : Dat} {v : V} (q : DenE K τ G σ) (hi : i < σ.length) (h : Den K G d v) : DenE K (τ.set i (some d)) G (σ.set i (some v)) := fun j e hj => by
  by_cases c : i = j
  · subst c
    have hl : i < τ.length := by
      have := (List.getElem?_eq_some_iff.mp hj).1
      simpa using this
    rw [List.getElem?_set_self hl] at hj
    cases hj
    exact ⟨v, List.getElem?_set_self hi, h⟩
  · rw [List.getElem?_set_ne c] at hj
    obtain ⟨u, h1, h2⟩ := q j e hj
    exact ⟨u, by rw [List.getElem?_set_ne c]; exact h1, h2⟩
end

/-! ### what may change -/
inductive MC where
  | lst (ds : List Dat) | ins (C dx : Addr) (fs : List (Str × Dat)) | dic (kvs : List (Key × Dat))
abbrev Mem := List (Addr × MC)
def adr1 : Addr × MC → List Addr
  | (p, .ins _ dx _) => [p, dx]
  | (p, _) => [p]
def adr (M : Mem) : List Addr := M.flatMap adr1
/-- names with data against names with values -/
def DenF (K : PySem.W.Frag) (G : Hp) {κ : Type} (fs : List (κ × Dat)) (vs : List (κ × V)) : Prop := vs.map (·.1) = fs.map (·.1) ∧ DenL K G (fs.map (·.2)) (vs.map (·.2))
def MH (K : PySem.W.Frag) (G H : Hp) : Addr × MC → Prop
  | (p, .lst ds) => ∃ vs, H p = some (.lst vs) ∧ DenL K G ds vs
  | (p, .ins C dx fs) => ∃ vs, H p = some (.ins C dx vs) ∧ H dx = some (.own p) ∧ DenF K G fs vs
  | (p, .dic kvs) => ∃ vs, H p = some (.dK vs) ∧ DenF K G kvs vs
structure Hst (K : PySem.W.Frag) (G : Hp) (M : Mem) (H : Hp) : Prop where
  sub : Same G H
  mem : ∀ c ∈ M, MH K G H c
  out : ∀ b ∈ adr M, G b = none
  nd : (adr M).Nodup
structure Stp (G : Hp) (M : Mem) (H G2 : Hp) (M2 : Mem) (H2 : Hp) : Prop where
  gg : Same G G2
  hh : ∀ b o, b ∉ adr M → H b = some o → H2 b = some o
  fr : ∀ b, H b ≠ none → b ∉ adr M → G b = none → G2 b = none
  ad : ∀ b ∈ adr M2, b ∈ adr M ∨ H b = none
section
variable {K : PySem.W.Frag} {G G1 G2 G3 H H1 H2 H3 : Hp} {M M1 M2 M3 : Mem}
theorem DenF.up {κ : Type} {fs : List (κ × Dat)} {vs : List (κ × V)} (q : DenF K G fs vs) (h : Same G G1) : DenF K G1 fs vs := ⟨q.1, q.2.up h⟩
theorem Stp.refl : Stp G M H G M H := ⟨Same.refl _, fun _ _ _ e => e, fun _ _ _ e => e, fun _ h => .inl h⟩
theorem Stp.trans (a : Stp G M H G1 M1 H1) (b : Stp G1 M1 H1 G2 M2 H2) : Stp G M H G2 M2 H2 where
  gg := a.gg.trans b.gg
  hh := fun c o n e => by
    refine b.hh c o (fun z => ?_) (a.hh c o n e)
    rcases a.ad c z with z | z
    · exact n z
    · rw [e] at z; cases z
  fr := fun c hc n g => by
    have z1 : c ∉ adr M1 := fun z => by
      rcases a.ad c z with z | z
      · exact n z
      · exact hc z
    refine b.fr c (fun z => ?_) z1 (a.fr c hc n g)
    cases e : H c with
    | none => exact hc e
    | some o => rw [a.hh c o n e] at z; cases z
  ad := fun c h => by
    rcases b.ad c h with z | z
    · exact a.ad c z
    · refine (Classical.em (c ∈ adr M)).imp id fun n => ?_
      cases e : H c with
      | none => rfl
      | some o => rw [a.hh c o n e] at z; cases z
theorem MH.up {c : Addr × MC} (q : MH K G H c) (h : Same G G1) (e : ∀ b ∈ adr1 c, ∀ o, H b = some o → H1 b = some o) : MH K G1 H1 c := by
  obtain ⟨p, c⟩ := c
  cases c with
  | lst ds => obtain ⟨vs, h1, h2⟩ := q; exact ⟨vs, e p (by simp [adr1]) _ h1, h2.up h⟩
  | ins C dx fs => obtain ⟨vs, h1, h2, h3⟩ := q; exact ⟨vs, e p (by simp [adr1]) _ h1, e dx (by simp [adr1]) _ h2, h3.up h⟩
  | dic kvs => obtain ⟨vs, h1, h2⟩ := q; exact ⟨vs, e p (by simp [adr1]) _ h1, h2.up h⟩
theorem MH.there {c : Addr × MC} (q : MH K G H c) : ∀ b ∈ adr1 c, H b ≠ none := by
  obtain ⟨p, c⟩ := c
  intro b hb z
  cases c with
  | lst ds =>
    obtain ⟨vs, h1, h2⟩ := q
    have hb : b = p := by simpa [adr1] using hb
    rw [hb, h1] at z; cases z
  | ins C dx fs =>
    obtain ⟨vs, h1, h2, h3⟩ := q
    have hb : b = p ∨ b = dx := by simpa [adr1] using hb
    rcases hb with rfl | rfl
    · rw [h1] at z; cases z
    · rw [h2] at z; cases z
  | dic kvs =>
    obtain ⟨vs, h1, h2⟩ := q
    have hb : b = p := by simpa [adr1] using hb
    rw [hb, h1] at z; cases z
theorem Hst.there (h : Hst K G M H) : ∀ b ∈ adr M, H b ≠ none := fun b hb => by
  obtain ⟨c, hc, hb⟩ := List.mem_flatMap.mp hb
  exact (h.mem c hc).there b hb
theorem adr_append {A B : Mem} : adr (A ++ B) = adr A ++ adr B := by unfold adr; exact List.flatMap_append
theorem adr_perm {A B : Mem} (p : A.Perm B) : (adr A).Perm (adr B) := by unfold adr; exact p.flatMap_right _
theorem Hst.perm (h : Hst K G M H) (p : M.Perm M1) : Hst K G M1 H :=
  ⟨h.sub, fun c hc => h.mem c (p.mem_iff.mpr hc), fun b hb => h.out b ((adr_perm p).mem_iff.mpr hb), (adr_perm p).nodup_iff.mp h.nd⟩
theorem Stp.perm {A B : Mem} (s : Stp G M H G2 M2 H2) (p : M.Perm A) (q : M2.Perm B) : Stp G A H G2 B H2 :=
  ⟨s.gg, fun b o n e => s.hh b o (fun z => n ((adr_perm p).mem_iff.mp z)) e, fun b hb n g => s.fr b hb (fun z => n ((adr_perm p).mem_iff.mp z)) g,
    fun b hb => (s.ad b ((adr_perm q).mem_iff.mpr hb)).imp (fun z => (adr_perm p).mem_iff.mp z) id⟩
/-- a part of what may change -/
theorem Hst.left {A B : Mem} (h : Hst K G (A ++ B) H) : Hst K G A H :=
  ⟨h.sub, fun c hc => h.mem c (List.mem_append_left _ hc), fun b hb => h.out b (by rw [adr_append]; exact List.mem_append_left _ hb), by
    have := h.nd; rw [adr_append] at this; exact (List.nodup_append.mp this).1⟩
/-- the rest stays -/
theorem Stp.frame {A A2 B : Mem} (h : Hst K G (A ++ B) H) (s : Stp G A H G2 A2 H2) (h2 : Hst K G2 A2 H2) : Stp G (A ++ B) H G2 (A2 ++ B) H2 ∧ Hst K G2 (A2 ++ B) H2 := by
  have nd := h.nd
  rw [adr_append] at nd
  obtain ⟨n1, n2, n3⟩ := List.nodup_append.mp nd
  have nB : ∀ b ∈ adr B, b ∉ adr A := fun b hb ha => n3 b ha b hb rfl
  have th : ∀ b ∈ adr B, H b ≠ none := fun b hb => h.there b (by rw [adr_append]; exact List.mem_append_right _ hb)
  refine ⟨⟨s.gg, fun b o n e => s.hh b o (fun z => n (by rw [adr_append]; exact List.mem_append_left _ z)) e, fun b hb n g => s.fr b hb (fun z => n (by rw [adr_append]; exact List.mem_append_left _ z)) g, fun b hb => ?_⟩, h2.sub, fun c hc => ?_, fun b hb => ?_, ?_⟩
  · rw [adr_append] at hb ⊢
    rcases List.mem_append.mp hb with z | z
    · exact (s.ad b z).imp (fun y => List.mem_append_left _ y) id
    · exact .inl (List.mem_append_right _ z)
  · rcases List.mem_append.mp hc with z | z
    · exact h2.mem c z
    · exact (h.mem c (List.mem_append_right _ z)).up s.gg fun b hb o e => s.hh b o (nB b (List.mem_flatMap.mpr ⟨c, z, hb⟩)) e
  · rw [adr_append] at hb
    rcases List.mem_append.mp hb with z | z
    · exact h2.out b z
    · exact s.fr b (th b z) (nB b z) (h.out b (by rw [adr_append]; exact List.mem_append_right _ z))
  · rw [adr_append]
    refine List.nodup_append.mpr ⟨h2.nd, n2, fun a ha b hb e => ?_⟩
    subst e
    rcases s.ad a ha with z | z
    · exact nB a hb z
    · exact th a hb z
/-- a new thing of the unchanging part -/
theorem Stp.new {p : Addr} {o : HO} (h : Hst K G M H) (hp : H p = none) : Stp G M H (upd G p o) M (upd H p o) ∧ Hst K (upd G p o) M (upd H p o) := by
  have gp : G p = none := h.sub.free hp
  have nM : ∀ b ∈ adr M, b ≠ p := fun b hb e => h.there b hb (by rw [e]; exact hp)
  refine ⟨⟨fun b u e => ?_, fun b u _ e => ?_, fun b hb _ g => ?_, fun b hb => .inl hb⟩, fun b u e => ?_, fun c hc => (h.mem c hc).up (fun b u e => ?_) fun b hb u e => ?_, fun b hb => ?_, h.nd⟩
  · rw [upd_ne (ne_of_none e gp)]; exact e
  · rw [upd_ne (ne_of_none e hp)]; exact e
  · rw [upd_ne (fun e => hb (by rw [e]; exact hp))]; exact g
  · by_cases c : b = p
    · subst c; rw [upd_same] at e ⊢; exact e
    · rw [upd_ne c] at e ⊢; exact h.sub b u e
  · rw [upd_ne (ne_of_none e gp)]; exact e
  · rw [upd_ne (nM b (List.mem_flatMap.mpr ⟨c, hc, hb⟩))]; exact e
  · rw [upd_ne (nM b hb)]; exact h.out b hb
end
end Kh

set_option Elab.async false
set_option linter.all false
set_option maxRecDepth 100000
set_option maxHeartbeats 1000000
namespace Kh
open PySem PySem.Spec L2
open PyProof.Rows (isTrue_plain isTrue_not isTrue_and isTrue_or isTrue_and_nil isTrue_or_nil BoolOp_one BoolOp_and BoolOp_or UnaryOp_ not_of)

/-! ### the weakest readings; T: a token is out already -/
def Tk (T : Bool) (s : Shared) : Prop := T = true → 1 ≤ s.toks
theorem tk_f {s : Shared} : Tk false s := fun h => nomatch h
section
variable {α : Type} {t : Sem α} {Q Q' : α → Shared → Prop} {M : Model} {A : Around} {E : Value → Shared → Prop} {s : Shared} {T : Bool}
theorem thnT (hT : Tk T s) (h : wpAny M A t Q E s) (hQ : ∀ a s', Tk T s' → Q a s' → Q' a s') : wpAny M A t Q' E s := by
  cases T with
  | false => exact thn h fun a s' q => hQ a s' tk_f q
  | true => exact wpAny_with_toks (hT rfl) (wpAny_mono h (fun a s' q k => hQ a s' (fun _ => k) q) fun _ _ x _ => x)
end
def tW (X : Cx) (T : Bool) (e : Expr) : TE := fun σ H Q => ∀ pins s, Tk T s → Inv X pins σ H s → wpAny (model X.prog X.w) X.A (eval e X.env) (EP X pins σ Q) X.xe s
def tWT (X : Cx) (T : Bool) (e : Expr) : TT := fun σ H Q => ∀ pins s, Tk T s → Inv X pins σ H s → wpAny (model X.prog X.w) X.A (isTrue e X.env (eval e X.env)) (TP X pins σ Q) X.xe s
def tWW (X : Cx) (T : Bool) (e : Expr) : TT := fun σ H Q => ∀ whole pins s, Tk T s → Inv X pins σ H s → wpAny (model X.prog X.w) X.A (isTrue e X.env whole) (TP X pins σ Q) X.xe s
def tWA (X : Cx) (T : Bool) (es : List Expr) : TA := fun σ H Q => ∀ (pos : Pos) pins s, Tk T s → Inv X pins σ H s → wpAny (model X.prog X.w) X.A (spliced (backTo pos (starEach es X.env))) (AP X pins σ Q) X.xe s
def tWS (X : Cx) (T : Bool) (st : Stmt) : TS := fun D σ H => ∀ pins s, Tk T s → Inv X pins σ H s → wpAny (model X.prog X.w) X.A (exec st X.env) (SP X pins D) X.xe s
def tWSs (X : Cx) (T : Bool) (ss : List Stmt) : TS := fun D σ H => ∀ pins s, Tk T s → Inv X pins σ H s → wpAny (model X.prog X.w) X.A (execs ss X.env) (SP X pins D) X.xe s
def tWI (X : Cx) (T : Bool) (tg iter : Expr) : TI := fun σ H R => ∀ pins s, Tk T s → Inv X pins σ H s → wpAny (model X.prog X.w) X.A (eval iter X.env) (fun v s1 => wpAny (model X.prog X.w) X.A (pyIter v) (PIE X pins σ tg R) X.xe s1) X.xe s
def tWG (X : Cx) (T : Bool) (target : Expr) : TG := fun v σ H Q => ∀ pins s u, Tk T s → Inv X pins σ H s → RelV v u → wpAny (model X.prog X.w) X.A (assign target X.env u) (fun _ s' => ∃ σ' H', Inv X pins σ' H' s' ∧ Q σ' H') X.xe s
def tWGs (X : Cx) (T : Bool) (ts : List Expr) : TGs := fun vs σ H Q => ∀ pins s us, Tk T s → Inv X pins σ H s → Vals vs us → wpAny (model X.prog X.w) X.A (assignInOrder ((assignEach ts X.env).map (·.2)) us) (fun _ s' => ∃ σ' H', Inv X pins σ' H' s' ∧ Q σ' H') X.xe s
def rW (X : Cx) (T : Bool) (f : Value → Value → Sem Value) : R2 := fun x y H Q => ∀ pins s σ v u, Tk T s → Inv X pins σ H s → RelV x v → RelV y u → wpAny (model X.prog X.w) X.A (f v u) (EP X pins σ Q) X.xe s
section
variable {X : Cx} {T : Bool} {e a b c : Expr} {es rest' : List Expr} {st : Stmt} {ss rest : List Stmt} {tg iter : Expr} {pos : Pos} {σ : L2.St} {H : Hp} {Q : VK} {QT : Bool → Hp → Prop} {D : Ends}
theorem tW_of {t : TE} (h : PE X e t) (q : t σ H Q) : tW X T e σ H Q := fun pins s _ I => h.run pins s σ H Q I q
theorem tWT_of {t : TT} (h : PT X e t) (q : t σ H QT) : tWT X T e σ H QT := fun pins s _ I => h.run pins s σ H QT I q
theorem tWA_of {t : TA} {Q : List V → Hp → Prop} (h : PA X es t) (q : t σ H Q) : tWA X T es σ H Q := fun pos pins s _ I => h.run pos pins s σ H Q I q
theorem tWS_of {t : TS} (h : PS X st t) (q : t D σ H) : tWS X T st D σ H := fun pins s _ I => h.run pins s σ H D I q
theorem tWSs_of {t : TS} (h : PSs X ss t) (q : t D σ H) : tWSs X T ss D σ H := fun pins s _ I => h.run pins s σ H D I q
theorem tWI_of {t : TI} {R : It → Hp → Prop} (h : PI X tg iter t) (q : t σ H R) : tWI X T tg iter σ H R := fun pins s _ I => h.run pins s σ H R I q
theorem tWG_of {t : TG} {v : V} {Q : L2.St → Hp → Prop} (h : PG X tg t) (q : t v σ H Q) : tWG X T tg v σ H Q := fun pins s u _ I r => h.run pins s σ H v u Q I r q
theorem rW_of {f : Value → Value → Sem Value} {r : R2} {x y : V} (h : OpR X f r) (q : r x y H Q) : rW X T f x y H Q := fun pins s σ v u _ I rx ry => h pins s σ H x y v u Q I rx ry q
/-- without the token -/
theorem pe_W : PE X e (tW X false e) := ⟨fun pins s _ _ _ I h => h pins s tk_f I⟩
theorem pt_W : PT X e (tWT X false e) := ⟨fun pins s _ _ _ I h => h pins s tk_f I⟩
theorem pa_W : PA X es (tWA X false es) := ⟨fun pos pins s _ _ _ I h => h pos pins s tk_f I⟩
theorem pss_W : PSs X ss (tWSs X false ss) := ⟨fun pins s _ _ _ I h => h pins s tk_f I⟩
theorem pi_W : PI X tg iter (tWI X false tg iter) := ⟨fun pins s _ _ _ I h => h pins s tk_f I⟩
theorem pg_W : PG X tg (tWG X false tg) := ⟨fun pins s _ _ _ u _ I r h => h pins s u tk_f I r⟩
theorem tW_len (h : σ.length = X.N.length → tW X T e σ H Q) : tW X T e σ H Q := fun pins s k I => h I.len pins s k I
theorem tWSs_len (h : σ.length = X.N.length → tWSs X T ss D σ H) : tWSs X T ss D σ H := fun pins s k I => h I.len pins s k I
theorem tWG_len {v : V} {Q : L2.St → Hp → Prop} (h : σ.length = X.N.length → tWG X T tg v σ H Q) : tWG X T tg v σ H Q := fun pins s u k I r => h I.len pins s u k I r
/-! the constructs, from the readings of their parts -/
theorem w_two {f : Value → Value → Sem Value} (q : tW X T a σ H fun x H1 => tW X T b σ H1 fun y H2 => rW X T f x y H2 Q) {pins : List (Addr × Obj)} {s : Shared} (k : Tk T s) (I : Inv X pins σ H s) :
    wpAny (model X.prog X.w) X.A (eval a X.env) (fun v s₁ => wpAny (model X.prog X.w) X.A (eval b X.env) (fun u s₂ => wpAny (model X.prog X.w) X.A (f v u) (EP X pins σ Q) X.xe s₂) X.xe s₁) X.xe s :=
  thnT k (q pins s k I) fun v s1 k1 ⟨x, H1, I1, r1, q1⟩ => thnT k1 (q1 pins s1 k1 I1) fun u s2 k2 ⟨y, H2, I2, r2, q2⟩ => q2 pins s2 σ v u k2 I2 r1 r2
theorem w_bin {op : Operator} (q : tW X T a σ H fun x H1 => tW X T b σ H1 fun y H2 => rW X T (binaryOp op) x y H2 Q) : tW X T (.BinOp a op b pos) σ H Q := fun pins s k I => wpAny_BinOp (w_two q k I)
theorem w_cmp {op : CmpOp} (hm : behindInMarks op b = false) (q : tW X T a σ H fun x H1 => tW X T b σ H1 fun y H2 => rW X T (compareOp op) x y H2 Q) : tW X T (.Compare a [op] [b] pos) σ H Q := fun pins s k I => wpAny_Compare1 (w_two q k I) hm
theorem w_val (he : ∀ whole, isTrue e X.env whole = (do let v ← whole; standAt e.pos; holding [v] (truthy v))) (q : tW X T e σ H fun x H1 => ∃ c, x = .bl c ∧ QT c H1) : tWT X T e σ H QT := fun pins s k I =>
  isTrue_plain (thnT k (q pins s k I) fun v s1 _ ⟨x, H1, I1, r1, c, ec, q1⟩ => by subst ec; cases r1; exact wpAny_truthy_bool ⟨H1, I1, q1⟩) (he _)
theorem w_cmpT {op : CmpOp} (hm : behindInMarks op b = false) (q : tW X T a σ H fun x H1 => tW X T b σ H1 fun y H2 => rW X T (compareOp op) x y H2 fun z H3 => ∃ c, z = .bl c ∧ QT c H3) : tWT X T (.Compare a [op] [b] pos) σ H QT := fun pins s k I =>
  wpAny_isTrue_Compare1 (thnT k (w_two q k I) fun v s1 _ h1 => thn h1 fun u s2 h2 => thn h2 fun cv s3 ⟨x, H1, I1, r1, c, ec, q1⟩ => by subst ec; cases r1; exact wpAny_truthy_bool ⟨H1, I1, q1⟩) hm
theorem w_not (q : tWT X T a σ H fun c H1 => QT (!c) H1) : tWT X T (.UnaryOp .Not a pos) σ H QT := fun pins s k I => isTrue_not (q pins s k I)
theorem w_and1 (q : tWT X T a σ H QT) : tWW X T (.BoolOp .And [a] pos) σ H QT := fun wh pins s k I => isTrue_and (thn (q pins s k I) fun c s1 e => by
  cases c with
  | true => exact isTrue_and_nil e
  | false => exact e)
theorem w_or1 (q : tWT X T a σ H QT) : tWW X T (.BoolOp .Or [a] pos) σ H QT := fun wh pins s k I => isTrue_or (thn (q pins s k I) fun c s1 e => by
  cases c with
  | false => exact isTrue_or_nil e
  | true => exact e)
theorem w_and (q : tWT X T a σ H fun c H1 => if c = true then tWW X T (.BoolOp .And (b :: rest') pos) σ H1 QT else QT false H1) : tWW X T (.BoolOp .And (a :: b :: rest') pos) σ H QT := fun wh pins s k I =>
  isTrue_and (thnT k (q pins s k I) fun c s1 k1 ⟨H1, I1, q1⟩ => by
    cases c with
    | true => exact q1 wh pins s1 k1 I1
    | false => exact ⟨H1, I1, q1⟩)
theorem w_or (q : tWT X T a σ H fun c H1 => if c = true then QT true H1 else tWW X T (.BoolOp .Or (b :: rest') pos) σ H1 QT) : tWW X T (.BoolOp .Or (a :: b :: rest') pos) σ H QT := fun wh pins s k I =>
  isTrue_or (thnT k (q pins s k I) fun c s1 k1 ⟨H1, I1, q1⟩ => by
    cases c with
    | false => exact q1 wh pins s1 k1 I1
    | true => exact ⟨H1, I1, q1⟩)
theorem v_one {op} (q : tW X T a σ H Q) : tW X T (.BoolOp op [a] pos) σ H Q := fun pins s k I => BoolOp_one (q pins s k I)
theorem v_and (q : tW X T a σ H fun x H1 => ∃ c, x = .bl c ∧ if c = true then tW X T (.BoolOp .And (b :: rest') pos) σ H1 Q else Q (.bl false) H1) : tW X T (.BoolOp .And (a :: b :: rest') pos) σ H Q := fun pins s k I =>
  BoolOp_and (thnT k (q pins s k I) fun v s1 k1 ⟨x, H1, I1, r1, c, ec, q1⟩ => by
    subst ec; cases r1
    refine wpAny_truthy_bool ?_
    cases c with
    | true => exact q1 pins s1 k1 I1
    | false => exact ⟨.bl false, H1, I1, rfl, q1⟩)
theorem v_or (q : tW X T a σ H fun x H1 => ∃ c, x = .bl c ∧ if c = true then Q (.bl true) H1 else tW X T (.BoolOp .Or (b :: rest') pos) σ H1 Q) : tW X T (.BoolOp .Or (a :: b :: rest') pos) σ H Q := fun pins s k I =>
  BoolOp_or (thnT k (q pins s k I) fun v s1 k1 ⟨x, H1, I1, r1, c, ec, q1⟩ => by
    subst ec; cases r1
    refine wpAny_truthy_bool ?_
    cases c with
    | false => exact q1 pins s1 k1 I1
    | true => exact ⟨.bl true, H1, I1, rfl, q1⟩)
theorem v_not (q : tW X T a σ H fun x H1 => ∃ c, x = .bl c ∧ Q (.bl (!c)) H1) : tW X T (.UnaryOp .Not a pos) σ H Q := fun pins s k I =>
  UnaryOp_ (thn (q pins s k I) fun v s1 ⟨x, H1, I1, r1, c, ec, q1⟩ => by subst ec; cases r1; exact not_of (wpAny_truthy_bool ⟨.bl (!c), H1, I1, rfl, q1⟩))
theorem v_if (q : tWT X T c σ H fun k H1 => if k = true then tW X T a σ H1 Q else tW X T b σ H1 Q) : tW X T (.IfExp c a b pos) σ H Q := fun pins s k I =>
  wpAny_IfExp (thnT k (q pins s k I) fun d s1 k1 ⟨H1, I1, q1⟩ => by
    cases d with
    | true => exact q1 pins s1 k1 I1
    | false => exact q1 pins s1 k1 I1)
theorem wa_cons {Q : List V → Hp → Prop} (hs : starEach (e :: es) X.env = (false, eval e X.env) :: starEach es X.env) (q : tW X T e σ H fun x H1 => tWA X T es σ H1 fun xs H2 => Q (x :: xs) H2) : tWA X T (e :: es) σ H Q := fun pos pins s k I => by
  rw [hs]
  show wpAny _ _ (spliced ((false, eval e X.env) :: backTo pos (starEach es X.env))) _ _ s
  exact Calls.spliced_cons (thnT k (q pins s k I) fun u s1 k1 ⟨x, H1, I1, r1, q1⟩ => thn (q1 pos pins s1 k1 I1) fun us s2 ⟨xs, H2, I2, r2, q2⟩ => ⟨x :: xs, H2, I2, .cons r1 r2, q2⟩)
/-! statements -/
theorem ws_step' (q : tWS X T st { D with nx := tWSs X T rest D } σ H) : tWSs X T (st :: rest) D σ H := fun pins s k I =>
  wpAny_execs_cons (thnT k (q pins s k I) fun f s1 k1 h => by
    cases f with
    | next => obtain ⟨σ', H', I', h⟩ := h; exact h pins s1 k1 I'
    | ret v => exact h
    | brk => exact h
    | cont => exact h)
theorem s_ret (q : tW X T e σ H D.rt) : tWS X T (.Return (some e) pos) D σ H := fun pins s k I => wpAny_Return_some (thn (q pins s k I) fun v s1 ⟨x, H1, I1, r1, q1⟩ => ⟨x, σ, H1, I1, r1, q1⟩)
theorem s_expr (hs : swapsWith e none pos.line X.env = pure false) (q : tW X T e σ H fun _ H1 => D.nx σ H1) : tWS X T (.Expr e pos) D σ H := fun pins s k I =>
  wpAny_Expr_any (thn (q pins s k I) fun v s1 ⟨x, H1, I1, r1, q1⟩ => ⟨σ, H1, I1, q1⟩) I.quiet hs
theorem s_if {t : Expr} {p q : List Stmt} (h : tWT X T t σ H fun k H1 => if k = true then tWSs X T p D σ H1 else tWSs X T q D σ H1) : tWS X T (.If t p q pos) D σ H := fun pins s k I =>
  wpAny_If (thnT k (h pins s k I) fun d s1 k1 ⟨H1, I1, q1⟩ => by
    cases d with
    | true => exact q1 pins s1 k1 I1
    | false => exact q1 pins s1 k1 I1)
theorem s_asg (hs : swapsWithSole [tg] e pos.line X.env = pure false) (hw : swappedStores [tg] e X.env = pure none) (h1 : (assignEach [tg] X.env).map (·.2) = [assign tg X.env]) (q : tW X T e σ H fun x H1 => tWG X T tg x σ H1 D.nx) : tWS X T (.Assign [tg] e pos) D σ H := fun pins s k I =>
  wpAny_Assign_stores (thnT k (q pins s k I) fun v s1 k1 ⟨x, H1, I1, r1, q1⟩ => by
    rw [h1]
    exact thn (q1 pins s1 v k1 I1 r1) fun _ s2 q => q) hs hw
theorem s_set {i : Nat} {x : Str} {pos' : Pos} (hN : X.N.Nodup) (hi : X.N[i]? = some x) (hx : Loc X.env.scope x) (hs : swapsWith e (some (.Name x pos')) pos.line X.env = pure false) (hf : X.fn x = true ∨ X.env.scope.names.lookup x = some .local)
    (q : tW X T e σ H fun v H1 => D.nx (σ.set i (some v)) H1) : tWS X T (.Assign [.Name x pos'] e pos) D σ H := fun pins s k I =>
  wpAny_Assign_Name (thn (q pins s k I) fun v s1 ⟨y, H1, I1, r1, q1⟩ => store_ok I1 hN hi hx r1 (fun s2 I2 => ⟨_, H1, I2, q1⟩) hf) hs
end

/-! ### exceptions, ends -/
/-- an exception: its class, its own fields -/
structure Exn where
  C : Addr
  ns : List Str
  ds : List Dat
def DenX (K : PySem.W.Frag) (G H : Hp) (x : Exn) (d : Option Addr) : Prop := (x.ns = [] ∧ x.ds = []) ∨ ∃ dd vs, d = some dd ∧ G dd = some (.xd (x.ns.zip vs)) ∧ DenL K G x.ds vs
inductive Out where
  | nx (τ : TEnv) | rt (d : Dat) | bk (τ : TEnv) | ct (τ : TEnv) | ex (x : Exn) (τ : TEnv)
abbrev RK := Out → Mem → Prop
abbrev PK' := Dat → Mem → Prop
abbrev XKx := Exn → Mem → Prop
section
variable (K : PySem.W.Frag)
def CE' (G : Hp) (M : Mem) (H : Hp) (P : PK') (Q : VK) : Prop := ∀ d M2 v G2 H2, P d M2 → Stp G M H G2 M2 H2 → Hst K G2 M2 H2 → Den K G2 d v → Q v H2
def CT' (G : Hp) (M : Mem) (H : Hp) (P : Bool → Mem → Prop) (Q : Bool → Hp → Prop) : Prop := ∀ b M2 G2 H2, P b M2 → Stp G M H G2 M2 H2 → Hst K G2 M2 H2 → Q b H2
def CA' (G : Hp) (M : Mem) (H : Hp) (P : List Dat → Mem → Prop) (Q : List V → Hp → Prop) : Prop := ∀ ds M2 vs G2 H2, P ds M2 → Stp G M H G2 M2 H2 → Hst K G2 M2 H2 → DenL K G2 ds vs → Q vs H2
def CX' (G : Hp) (M : Mem) (H : Hp) (E : XKx) (T : Value → Option Addr → Hp → Prop) : Prop := ∀ x M2 G2 H2 d, E x M2 → Stp G M H G2 M2 H2 → Hst K G2 M2 H2 → DenX K G2 H2 x d → T (.ref x.C) d H2
def OutOk (G2 H2 : Hp) (D : Ends) (W : WX) : Out → Prop
  | .nx τ => ∀ σ, DenE K τ G2 σ → D.nx σ H2
  | .rt d => ∀ v, Den K G2 d v → D.rt v H2
  | .bk τ => ∀ σ, DenE K τ G2 σ → D.bk σ H2
  | .ct τ => ∀ σ, DenE K τ G2 σ → D.ct σ H2
  | .ex x τ => ∀ σ d, DenE K τ G2 σ → DenX K G2 H2 x d → W (.ref x.C) d σ H2
def CS' (G : Hp) (M : Mem) (H : Hp) (R : RK) (D : Ends) (W : WX) : Prop := ∀ o M2 G2 H2, R o M2 → Stp G M H G2 M2 H2 → Hst K G2 M2 H2 → OutOk K G2 H2 D W o
/-- the target of a store -/
def CG' (G : Hp) (M : Mem) (H : Hp) (P : TEnv → Mem → Prop) (Q : L2.St → Hp → Prop) : Prop := ∀ τ M2 G2 H2 σ, P τ M2 → Stp G M H G2 M2 H2 → Hst K G2 M2 H2 → DenE K τ G2 σ → Q σ H2
end
section
variable {K : PySem.W.Frag} {G G1 H H1 : Hp} {M M1 : Mem}
theorem CE'.step {P : PK'} {Q : VK} (c : CE' K G M H P Q) (s : Stp G M H G1 M1 H1) : CE' K G1 M1 H1 P Q := fun d M2 v G2 H2 p s2 h dv => c d M2 v G2 H2 p (s.trans s2) h dv
theorem CT'.step {P : Bool → Mem → Prop} {Q : Bool → Hp → Prop} (c : CT' K G M H P Q) (s : Stp G M H G1 M1 H1) : CT' K G1 M1 H1 P Q := fun d M2 G2 H2 p s2 h => c d M2 G2 H2 p (s.trans s2) h
theorem CA'.step {P : List Dat → Mem → Prop} {Q : List V → Hp → Prop} (c : CA' K G M H P Q) (s : Stp G M H G1 M1 H1) : CA' K G1 M1 H1 P Q := fun d M2 v G2 H2 p s2 h dv => c d M2 v G2 H2 p (s.trans s2) h dv
theorem CX'.step {E : XKx} {T : Value → Option Addr → Hp → Prop} (c : CX' K G M H E T) (s : Stp G M H G1 M1 H1) : CX' K G1 M1 H1 E T := fun x M2 G2 H2 d p s2 h dv => c x M2 G2 H2 d p (s.trans s2) h dv
theorem CS'.step {R : RK} {D : Ends} {W : WX} (c : CS' K G M H R D W) (s : Stp G M H G1 M1 H1) : CS' K G1 M1 H1 R D W := fun o M2 G2 H2 p s2 h => c o M2 G2 H2 p (s.trans s2) h
theorem CG'.step {P : TEnv → Mem → Prop} {Q : L2.St → Hp → Prop} (c : CG' K G M H P Q) (s : Stp G M H G1 M1 H1) : CG' K G1 M1 H1 P Q := fun d M2 v G2 H2 p s2 h dv => c d M2 v G2 H2 p (s.trans s2) h dv
end

/-! ### the judgements: in the slots τ and the cells M, e gives a value and cells that P takes, or lets out what E takes -/
structure EX (X : Cx) (T : Bool) (e : Expr) (τ : TEnv) (M : Mem) (P : PK') (E : XKx) : Prop where
  run : ∀ W, Takes X W → ∀ σ G H, DenE X.K τ G σ → Hst X.K G M H → ∀ Q, CE' X.K G M H P Q → CX' X.K G M H E (fun c d H2 => W c d σ H2) → tW X T e σ H Q
structure ET (X : Cx) (T : Bool) (e : Expr) (τ : TEnv) (M : Mem) (P : Bool → Mem → Prop) (E : XKx) : Prop where
  run : ∀ W, Takes X W → ∀ σ G H, DenE X.K τ G σ → Hst X.K G M H → ∀ Q, CT' X.K G M H P Q → CX' X.K G M H E (fun c d H2 => W c d σ H2) → tWT X T e σ H Q
structure EA (X : Cx) (T : Bool) (es : List Expr) (τ : TEnv) (M : Mem) (P : List Dat → Mem → Prop) (E : XKx) : Prop where
  run : ∀ W, Takes X W → ∀ σ G H, DenE X.K τ G σ → Hst X.K G M H → ∀ Q, CA' X.K G M H P Q → CX' X.K G M H E (fun c d H2 => W c d σ H2) → tWA X T es σ H Q
structure WS (X : Cx) (T : Bool) (ss : List Stmt) (τ : TEnv) (M : Mem) (R : RK) : Prop where
  run : ∀ W, Takes X W → ∀ σ G H, DenE X.K τ G σ → Hst X.K G M H → ∀ D, CS' X.K G M H R D W → tWSs X T ss D σ H
/-- a value is stored at a target -/
structure GX (X : Cx) (T : Bool) (tg : Expr) (d : Dat) (τ : TEnv) (M : Mem) (P : TEnv → Mem → Prop) (E : XKx) : Prop where
  run : ∀ W, Takes X W → ∀ σ G H v, DenE X.K τ G σ → Hst X.K G M H → Den X.K G d v → ∀ Q, CG' X.K G M H P Q → CX' X.K G M H E (fun c d H2 => W c d σ H2) → tWG X T tg v σ H Q
/-- operations by values -/
def OP (X : Cx) (T : Bool) (f : Value → Value → Sem Value) (x y : Dat) (M : Mem) (P : PK') : Prop :=
  ∀ G H v u, Hst X.K G M H → Den X.K G x v → Den X.K G y u → ∀ Q, CE' X.K G M H P Q → rW X T f v u H Q
def BC (X : Cx) (f : Value) (ds : List Dat) (M : Mem) (P : PK') : Prop :=
  ∃ r, CallR X f r ∧ ∀ G H vs, Hst X.K G M H → DenL X.K G ds vs → ∀ Q, CE' X.K G M H P Q → r vs H Q
abbrev E0' : XKx := fun _ _ => False
theorem noX {K : PySem.W.Frag} {G H : Hp} {M : Mem} {T : Value → Option Addr → Hp → Prop} : CX' K G M H E0' T := fun _ _ _ _ _ h => h.elim

section
variable {X : Cx} {T : Bool} {τ : TEnv} {M : Mem} {P : PK'} {E : XKx} {e a b c : Expr} {es : List Expr} {pos : Pos}
/-- weakening -/
theorem EX.imp {P' : PK'} {E' : XKx} (h : EX X T e τ M P' E') (hp : ∀ d M2, P' d M2 → P d M2) (hx : ∀ x M2, E' x M2 → E x M2) : EX X T e τ M P E :=
  .mk fun W tk σ G H hE hH Q hP hX => h.run W tk σ G H hE hH Q (fun d M2 v G2 H2 p => hP d M2 v G2 H2 (hp _ _ p)) (fun x M2 G2 H2 d p => hX x M2 G2 H2 d (hx _ _ p))
theorem EX.nox (h : EX X T e τ M P E0') : EX X T e τ M P E := h.imp (fun _ _ p => p) fun _ _ p => p.elim
theorem ET.nox {P : Bool → Mem → Prop} (h : ET X T e τ M P E0') : ET X T e τ M P E := .mk fun W tk σ G H hE hH Q hP _ => h.run W tk σ G H hE hH Q hP noX
/-! ### names and constants -/
theorem ex_at {i : Nat} {x : Str} {d : Dat} (hN : X.N[i]? = some x) (hv : Vis X.env.scope x) (ht : τ[i]? = some (some d)) (h : P d M) (hd : (x == ("__debug__" : Str)) = false := by decide) (hcd : (x == ("__classdict__" : Str)) = false := by decide) :
    EX X T (.Name x pos) τ M P E := .mk fun W tk σ G H hE hH Q hP hX => by
  obtain ⟨v, h1, h2⟩ := hE i d ht
  exact tW_of (pe_var hN hv hd hcd) ⟨v, h1, hP d M v G H h Stp.refl hH h2⟩
/-- the place of a name -/
def ixIn (N : List Str) (x : Str) : Nat := N.findIdx (· == x)
theorem ex_var {x : Str} {d : Dat} (ht : X.N[ixIn X.N x]? = some x ∧ τ[ixIn X.N x]? = some (some d)) (h : P d M) (hv : Vis X.env.scope x := by first | exact Or.inl rfl | exact Or.inr (Or.inl rfl) | exact Or.inr (Or.inr rfl))
    (hd : (x == ("__debug__" : Str)) = false := by decide) (hcd : (x == ("__classdict__" : Str)) = false := by decide) : EX X T (.Name x pos) τ M P E := ex_at ht.1 hv ht.2 h hd hcd
theorem ex_c {v : V} {d : Dat} (hp : PE X e (tC v)) (hd : ∀ G, Den X.K G d v) (h : P d M) : EX X T e τ M P E := .mk fun W tk σ G H hE hH Q hP hX => tW_of hp (hP d M v G H h Stp.refl hH (hd G))
theorem ex_int {i j pos} (h : P (.int i) M) : EX X T (.Constant (.int i) j pos) τ M P E := ex_c pe_int (fun _ => den_int) h
theorem ex_bl {i j pos} (h : P (.bl i) M) : EX X T (.Constant (.bool i) j pos) τ M P E := ex_c pe_bl (fun _ => den_bl) h
theorem ex_non {j pos} (h : P .non M) : EX X T (.Constant .none j pos) τ M P E := ex_c pe_non (fun _ => den_non) h
theorem ex_str {i j pos} (h : P (.str i) M) : EX X T (.Constant (.str i) j pos) τ M P E := ex_c pe_str (fun _ => den_str) h
theorem ex_gstr {x : Str} {z : Str} {t : Tok} (hm : X.mg x = some (.str z t)) (h : P (.str z) M) (hg : Gl X x := by rfl) (hd : (x == ("__debug__" : Str)) = false := by decide) : EX X T (.Name x pos) τ M P E := ex_c (pe_glob (v := .str z) hg hm ⟨t, rfl⟩ hd) (fun _ => den_str) h
theorem ex_gref {x : Str} {q : Addr} (hm : X.mg x = some (.ref q)) (h : P (.raw (.ref q)) M) (hg : Gl X x := by rfl) (hd : (x == ("__debug__" : Str)) = false := by decide) : EX X T (.Name x pos) τ M P E := ex_c (pe_glob (v := .ref q) hg hm rfl hd) (fun _ => den_raw) h

/-! ### operators -/
theorem ex_bin {op : Operator} (h : EX X T a τ M (fun x M1 => EX X T b τ M1 (fun y M2 => OP X T (binaryOp op) x y M2 P) E) E) : EX X T (.BinOp a op b pos) τ M P E := by
  refine .mk ?_; intro W tk σ G H hE hH Q hP hX
  refine w_bin ?_
  refine h.run W tk σ G H hE hH _ ?_ hX
  intro x M1 v G1 H1 hb s1 h1 dx
  refine hb.run W tk σ G1 H1 (hE.up s1.gg) h1 _ ?_ (hX.step s1)
  intro y M2 u G2 H2 ho s2 h2 dy
  exact ho G2 H2 v u h2 (dx.up s2.gg) dy Q (hP.step (s1.trans s2))
theorem ex_cmp {op : CmpOp} (h : EX X T a τ M (fun x M1 => EX X T b τ M1 (fun y M2 => OP X T (compareOp op) x y M2 P) E) E) (hm : behindInMarks op b = false := by first | exact nomark _ | rfl) : EX X T (.Compare a [op] [b] pos) τ M P E := by
  refine .mk ?_; intro W tk σ G H hE hH Q hP hX
  refine w_cmp hm ?_
  refine h.run W tk σ G H hE hH _ ?_ hX
  intro x M1 v G1 H1 hb s1 h1 dx
  refine hb.run W tk σ G1 H1 (hE.up s1.gg) h1 _ ?_ (hX.step s1)
  intro y M2 u G2 H2 ho s2 h2 dy
  exact ho G2 H2 v u h2 (dx.up s2.gg) dy Q (hP.step (s1.trans s2))
theorem op_of {f : Value → Value → Sem Value} {r : R2} {x y : Dat} (ho : OpR X f r) (h : ∀ G H v u, Hst X.K G M H → Den X.K G x v → Den X.K G y u → ∀ Q, CE' X.K G M H P Q → r v u H Q) : OP X T f x y M P :=
  fun G H v u hH dx dy Q hP => rW_of ho (h G H v u hH dx dy Q hP)
theorem op_II {f : Value → Value → Sem Value} {g : Int → Int → V} {i j : Int} {d : Dat} (ho : OpR X f (rI0 g)) (hd : ∀ G, Den X.K G d (g i j)) (h : P d M) : OP X T f (.int i) (.int j) M P :=
  op_of ho fun G H v u hH dx dy Q hP => ⟨i, j, dx.int_inv, dy.int_inv, hP _ _ _ _ _ h Stp.refl hH (hd G)⟩
theorem op_IIc {f : Value → Value → Sem Value} {C : Int → Int → Prop} {g : Int → Int → V} {i j : Int} {d : Dat} (ho : OpR X f (rI C g)) (hc : C i j) (hd : ∀ G, Den X.K G d (g i j)) (h : P d M) : OP X T f (.int i) (.int j) M P :=
  op_of ho fun G H v u hH dx dy Q hP => ⟨i, j, dx.int_inv, dy.int_inv, hc, hP _ _ _ _ _ h Stp.refl hH (hd G)⟩
theorem o_add {i j : Int} (h : P (.int (i + j)) M) : OP X T (binaryOp .Add) (.int i) (.int j) M P := op_II op_add (fun _ => den_int) h
theorem o_sub {i j : Int} (h : P (.int (i - j)) M) : OP X T (binaryOp .Sub) (.int i) (.int j) M P := op_II op_sub (fun _ => den_int) h
theorem o_lt {i j : Int} (h : P (.bl (decide (i < j))) M) : OP X T (compareOp .Lt) (.int i) (.int j) M P := op_II op_lt (fun _ => den_bl) h
theorem o_le {i j : Int} (h : P (.bl (decide (i ≤ j))) M) : OP X T (compareOp .LtE) (.int i) (.int j) M P := op_II op_le (fun _ => den_bl) h
theorem o_gt {i j : Int} (h : P (.bl (decide (j < i))) M) : OP X T (compareOp .Gt) (.int i) (.int j) M P := op_II op_gt (fun _ => den_bl) h
theorem o_ge {i j : Int} (h : P (.bl (decide (j ≤ i))) M) : OP X T (compareOp .GtE) (.int i) (.int j) M P := op_II op_ge (fun _ => den_bl) h

/-! ### tests -/
theorem et_val {Pb : Bool → Mem → Prop} (h : EX X T e τ M (fun d M1 => ∃ k, d = .bl k ∧ Pb k M1) E) (he : ∀ whole, isTrue e X.env whole = (do let v ← whole; standAt e.pos; holding [v] (truthy v)) := by intro _; rfl) : ET X T e τ M Pb E := by
  refine .mk ?_; intro W tk σ G H hE hH Q hP hX
  refine w_val he ?_
  refine h.run W tk σ G H hE hH _ ?_ hX
  intro d M1 v G1 H1 ⟨k, ek, hk⟩ s1 h1 dv
  subst ek
  exact ⟨k, dv.bl_inv, hP k M1 G1 H1 hk s1 h1⟩
theorem et_cmp {op : CmpOp} {Pb : Bool → Mem → Prop} (h : EX X T a τ M (fun x M1 => EX X T b τ M1 (fun y M2 => OP X T (compareOp op) x y M2 fun d M3 => ∃ k, d = .bl k ∧ Pb k M3) E) E) (hm : behindInMarks op b = false := by first | exact nomark _ | rfl) :
    ET X T (.Compare a [op] [b] pos) τ M Pb E := by
  refine .mk ?_; intro W tk σ G H hE hH Q hP hX
  refine w_cmpT hm ?_
  refine h.run W tk σ G H hE hH _ ?_ hX
  intro x M1 v G1 H1 hb s1 h1 dx
  refine hb.run W tk σ G1 H1 (hE.up s1.gg) h1 _ ?_ (hX.step s1)
  intro y M2 u G2 H2 ho s2 h2 dy
  refine ho G2 H2 v u h2 (dx.up s2.gg) dy _ ?_
  intro d M3 w G3 H3 ⟨k, ek, hk⟩ s3 h3 dw
  subst ek
  exact ⟨k, dw.bl_inv, hP k M3 G3 H3 hk ((s1.trans s2).trans s3) h3⟩
theorem et_not {Pb : Bool → Mem → Prop} (h : ET X T a τ M (fun k M1 => Pb (!k) M1) E) : ET X T (.UnaryOp .Not a pos) τ M Pb E := by
  refine .mk ?_; intro W tk σ G H hE hH Q hP hX
  refine w_not ?_
  refine h.run W tk σ G H hE hH _ ?_ hX
  intro k M1 G1 H1 hk s1 h1
  exact hP _ M1 G1 H1 hk s1 h1
/-- and, or: the rest -/
structure EW (X : Cx) (T : Bool) (e : Expr) (τ : TEnv) (M : Mem) (P : Bool → Mem → Prop) (E : XKx) : Prop where
  run : ∀ W, Takes X W → ∀ σ G H, DenE X.K τ G σ → Hst X.K G M H → ∀ Q, CT' X.K G M H P Q → CX' X.K G M H E (fun c d H2 => W c d σ H2) → tWW X T e σ H Q
theorem ew_and1 {Pb : Bool → Mem → Prop} (h : ET X T a τ M Pb E) : EW X T (.BoolOp .And [a] pos) τ M Pb E := .mk fun W tk σ G H hE hH Q hP hX => w_and1 (h.run W tk σ G H hE hH Q hP hX)
theorem ew_or1 {Pb : Bool → Mem → Prop} (h : ET X T a τ M Pb E) : EW X T (.BoolOp .Or [a] pos) τ M Pb E := .mk fun W tk σ G H hE hH Q hP hX => w_or1 (h.run W tk σ G H hE hH Q hP hX)
theorem ew_and {Pb : Bool → Mem → Prop} {rest : List Expr} (h : ET X T a τ M (fun k M1 => (k = true → EW X T (.BoolOp .And (b :: rest) pos) τ M1 Pb E) ∧ (k = false → Pb false M1)) E) : EW X T (.BoolOp .And (a :: b :: rest) pos) τ M Pb E := by
  refine .mk ?_; intro W tk σ G H hE hH Q hP hX
  refine w_and ?_
  refine h.run W tk σ G H hE hH _ ?_ hX
  intro k M1 G1 H1 ⟨h1, h2⟩ s1 hs1
  cases k with
  | true => exact iteT ((h1 rfl).run W tk σ G1 H1 (hE.up s1.gg) hs1 Q (hP.step s1) (hX.step s1))
  | false => exact iteF (hP _ _ _ _ (h2 rfl) s1 hs1)
theorem ew_or {Pb : Bool → Mem → Prop} {rest : List Expr} (h : ET X T a τ M (fun k M1 => (k = true → Pb true M1) ∧ (k = false → EW X T (.BoolOp .Or (b :: rest) pos) τ M1 Pb E)) E) : EW X T (.BoolOp .Or (a :: b :: rest) pos) τ M Pb E := by
  refine .mk ?_; intro W tk σ G H hE hH Q hP hX
  refine w_or ?_
  refine h.run W tk σ G H hE hH _ ?_ hX
  intro k M1 G1 H1 ⟨h1, h2⟩ s1 hs1
  cases k with
  | true => exact iteT (hP _ _ _ _ (h1 rfl) s1 hs1)
  | false => exact iteF ((h2 rfl).run W tk σ G1 H1 (hE.up s1.gg) hs1 Q (hP.step s1) (hX.step s1))
theorem et_w {Pb : Bool → Mem → Prop} (h : EW X T e τ M Pb E) : ET X T e τ M Pb E := .mk fun W tk σ G H hE hH Q hP hX => by
  have := h.run W tk σ G H hE hH Q hP hX
  exact fun pins s k I => this _ pins s k I
theorem ET.imp {P P' : Bool → Mem → Prop} {E' : XKx} (h : ET X T e τ M P' E') (hp : ∀ d M2, P' d M2 → P d M2) (hx : ∀ x M2, E' x M2 → E x M2) : ET X T e τ M P E :=
  .mk fun W tk σ G H hE hH Q hP hX => h.run W tk σ G H hE hH Q (fun d M2 G2 H2 p => hP d M2 G2 H2 (hp _ _ p)) (fun x M2 G2 H2 d p => hX x M2 G2 H2 d (hx _ _ p))
/-- as values -/
theorem ex_and1 {op} (h : EX X T a τ M P E) : EX X T (.BoolOp op [a] pos) τ M P E := .mk fun W tk σ G H hE hH Q hP hX => v_one (h.run W tk σ G H hE hH Q hP hX)
theorem ex_and {rest : List Expr} (h : EX X T a τ M (fun d M1 => ∃ k, d = .bl k ∧ (k = true → EX X T (.BoolOp .And (b :: rest) pos) τ M1 P E) ∧ (k = false → P (.bl false) M1)) E) : EX X T (.BoolOp .And (a :: b :: rest) pos) τ M P E := by
  refine .mk ?_; intro W tk σ G H hE hH Q hP hX
  refine v_and ?_
  refine h.run W tk σ G H hE hH _ ?_ hX
  intro d M1 v G1 H1 ⟨k, ek, h1, h2⟩ s1 hs1 dv
  subst ek
  refine ⟨k, dv.bl_inv, ?_⟩
  cases k with
  | true => exact iteT ((h1 rfl).run W tk σ G1 H1 (hE.up s1.gg) hs1 Q (hP.step s1) (hX.step s1))
  | false => exact iteF (hP _ _ _ _ _ (h2 rfl) s1 hs1 den_bl)
theorem ex_or {rest : List Expr} (h : EX X T a τ M (fun d M1 => ∃ k, d = .bl k ∧ (k = true → P (.bl true) M1) ∧ (k = false → EX X T (.BoolOp .Or (b :: rest) pos) τ M1 P E)) E) : EX X T (.BoolOp .Or (a :: b :: rest) pos) τ M P E := by
  refine .mk ?_; intro W tk σ G H hE hH Q hP hX
  refine v_or ?_
  refine h.run W tk σ G H hE hH _ ?_ hX
  intro d M1 v G1 H1 ⟨k, ek, h1, h2⟩ s1 hs1 dv
  subst ek
  refine ⟨k, dv.bl_inv, ?_⟩
  cases k with
  | true => exact iteT (hP _ _ _ _ _ (h1 rfl) s1 hs1 den_bl)
  | false => exact iteF ((h2 rfl).run W tk σ G1 H1 (hE.up s1.gg) hs1 Q (hP.step s1) (hX.step s1))
theorem ex_not (h : EX X T a τ M (fun d M1 => ∃ k, d = .bl k ∧ P (.bl (!k)) M1) E) : EX X T (.UnaryOp .Not a pos) τ M P E := by
  refine .mk ?_; intro W tk σ G H hE hH Q hP hX
  refine v_not ?_
  refine h.run W tk σ G H hE hH _ ?_ hX
  intro d M1 v G1 H1 ⟨k, ek, h1⟩ s1 hs1 dv
  subst ek
  exact ⟨k, dv.bl_inv, hP _ _ _ _ _ h1 s1 hs1 den_bl⟩
theorem ex_if {t : Expr} (h : ET X T t τ M (fun k M1 => (k = true → EX X T a τ M1 P E) ∧ (k = false → EX X T b τ M1 P E)) E) : EX X T (.IfExp t a b pos) τ M P E := by
  refine .mk ?_; intro W tk σ G H hE hH Q hP hX
  refine v_if ?_
  refine h.run W tk σ G H hE hH _ ?_ hX
  intro k M1 G1 H1 ⟨h1, h2⟩ s1 hs1
  cases k with
  | true => exact iteT ((h1 rfl).run W tk σ G1 H1 (hE.up s1.gg) hs1 Q (hP.step s1) (hX.step s1))
  | false => exact iteF ((h2 rfl).run W tk σ G1 H1 (hE.up s1.gg) hs1 Q (hP.step s1) (hX.step s1))

/-! ### arguments, displays -/
theorem ea_nil {P : List Dat → Mem → Prop} (h : P [] M) : EA X T [] τ M P E := .mk fun W tk σ G H hE hH Q hP hX => tWA_of pa_nil (hP _ _ _ _ _ h Stp.refl hH .nil)
theorem ea_cons {P : List Dat → Mem → Prop} (h : EX X T e τ M (fun d M1 => EA X T es τ M1 (fun ds M2 => P (d :: ds) M2) E) E) (hs : starEach (e :: es) X.env = (false, eval e X.env) :: starEach es X.env := by rfl) : EA X T (e :: es) τ M P E := by
  refine .mk ?_; intro W tk σ G H hE hH Q hP hX
  refine wa_cons hs ?_
  refine h.run W tk σ G H hE hH _ ?_ hX
  intro d M1 v G1 H1 hb s1 h1 dv
  refine hb.run W tk σ G1 H1 (hE.up s1.gg) h1 _ ?_ (hX.step s1)
  intro ds M2 vs G2 H2 ho s2 h2 dvs
  exact hP (d :: ds) M2 (v :: vs) G2 H2 ho (s1.trans s2) h2 (.cons (dv.up s2.gg) dvs)
theorem v_tup {x1} {σ : L2.St} {H : Hp} {Q : VK} (q : tWA X T es σ H fun xs H1 => xs.length ≤ sizeLine ∧ ∀ p, H1 p = none → Q (.ref p) (upd H1 p (.tup xs))) : tW X T (.Tuple es x1 pos) σ H Q := fun pins s k I =>
  wpAny_Tuple_spliced (thn (q pos pins s k I) fun us s1 ⟨xs, H1, I1, r, z, q1⟩ => ⟨by rw [← r.length]; exact z, by
    have hf : H1 s1.heap.objs.size = none := I1.hok.fresh (Nat.le_refl _)
    exact ⟨.ref s1.heap.objs.size, upd H1 s1.heap.objs.size (.tup xs), I1.laid (t' := s1.toks) (fun b u e => Heap.get?_push_of_some _ e) (Nat.le_refl _) ⟨z, us, r, ⟨_, Heap.get?_push_size _ rfl, rfl, _, rfl⟩⟩, rfl, q1 _ hf⟩⟩)
theorem v_lst {σ : L2.St} {H : Hp} {Q : VK} (q : tWA X T es σ H fun xs H1 => xs.length ≤ sizeLine ∧ ∀ p, H1 p = none → Q (.ref p) (upd H1 p (.lst xs))) : tW X T (.List es pos) σ H Q := fun pins s k I =>
  wpAny_List_spliced (thn (q pos pins s k I) fun us s1 ⟨xs, H1, I1, r, z, q1⟩ => ⟨by rw [← r.length]; exact z, by
    have hf : H1 s1.heap.objs.size = none := I1.hok.fresh (Nat.le_refl _)
    exact ⟨.ref s1.heap.objs.size, upd H1 s1.heap.objs.size (.lst xs), I1.laid (t' := s1.toks) (fun b u e => Heap.get?_push_of_some _ e) (Nat.le_refl _) ⟨z, us, 0, r, Heap.get?_push_size _ rfl⟩, rfl, q1 _ hf⟩⟩)
theorem ex_tup {x1} (h : EA X T es τ M (fun ds M1 => ds.length ≤ sizeLine ∧ P (.tup ds) M1) E) : EX X T (.Tuple es x1 pos) τ M P E := by
  refine .mk ?_; intro W tk σ G H hE hH Q hP hX
  refine v_tup ?_
  refine h.run W tk σ G H hE hH _ ?_ hX
  intro ds M1 vs G1 H1 ⟨hl, hp⟩ s1 h1 dvs
  refine ⟨by rw [dvs.length]; exact hl, fun p hp' => ?_⟩
  obtain ⟨s2, h2⟩ := Stp.new (o := .tup vs) h1 hp'
  exact hP _ _ _ _ _ hp (s1.trans s2) h2 (den_tup upd_same (dvs.up s2.gg))
theorem ex_lst (h : EA X T es τ M (fun ds M1 => ds.length ≤ sizeLine ∧ P (.lst ds) M1) E) : EX X T (.List es pos) τ M P E := by
  refine .mk ?_; intro W tk σ G H hE hH Q hP hX
  refine v_lst ?_
  refine h.run W tk σ G H hE hH _ ?_ hX
  intro ds M1 vs G1 H1 ⟨hl, hp⟩ s1 h1 dvs
  refine ⟨by rw [dvs.length]; exact hl, fun p hp' => ?_⟩
  obtain ⟨s2, h2⟩ := Stp.new (o := .lst vs) h1 hp'
  exact hP _ _ _ _ _ hp (s1.trans s2) h2 (den_lst upd_same (dvs.up s2.gg))
/-! ### calls of built-ins -/
theorem ex_callB {x : Str} {p : Pos} {id : String} (hm : X.mg x = none) (hv : bootBuiltins x = some (.builtin id)) (h : EA X T (e :: es) τ M (fun ds M1 => BC X (.builtin id) ds M1 P) E) (hg : Gl X x := by rfl) (hn : x ≠ "__name__" := by decide) (hdb : (x == ("__debug__" : Str)) = false := by decide)
    (he : starEach (e :: es) X.env = (false, eval e X.env) :: starEach es X.env := by rfl) (hpl : (backTo pos (starEach es X.env)).any (·.1) = false := by rfl) : EX X T (.Call (.Name x p) (e :: es) [] pos) τ M P E := by
  refine .mk ?_; intro W tk σ G H hE hH Q hP hX pins s k I
  have hA := h.run W tk σ G H hE hH (fun vs H1 => ∃ r, CallR X (.builtin id) r ∧ r vs H1 Q) (fun ds M1 vs G1 H1 ⟨r, hr, hb⟩ s1 h1 dvs => ⟨r, hr, hb G1 H1 vs h1 dvs Q (hP.step s1)⟩) hX
  refine wpAny_Call_Name_kw (ld_blt I hg hm hv ?_ hn hdb)
  exact PyProof.Rows.callWith_builtin1 (thn (hA pos pins s k I) fun us s1 ⟨vs, H1, I1, r1, r, hr, q1⟩ => hr pins s1 σ H1 vs us Q I1 r1 q1) he hpl
theorem ex_callTy {x : Str} {p : Pos} {T' : String} (hm : X.mg x = none) (hv : bootBuiltins x = some (.type T')) (h : EA X T (e :: es) τ M (fun ds M1 => BC X (.type T') ds M1 P) E) (hg : Gl X x := by rfl) (hn : x ≠ "__name__" := by decide) (hdb : (x == ("__debug__" : Str)) = false := by decide)
    (he : starEach (e :: es) X.env = (false, eval e X.env) :: starEach es X.env := by rfl) (hpl : (backTo pos (starEach es X.env)).any (·.1) = false := by rfl) : EX X T (.Call (.Name x p) (e :: es) [] pos) τ M P E := by
  refine .mk ?_; intro W tk σ G H hE hH Q hP hX pins s k I
  have hA := h.run W tk σ G H hE hH (fun vs H1 => ∃ r, CallR X (.type T') r ∧ r vs H1 Q) (fun ds M1 vs G1 H1 ⟨r, hr, hb⟩ s1 h1 dvs => ⟨r, hr, hb G1 H1 vs h1 dvs Q (hP.step s1)⟩) hX
  refine wpAny_Call_Name_kw (ld_blt I hg hm hv ?_ hn hdb)
  exact PyProof.Rows.callWith_type1 (thn (hA pos pins s k I) fun us s1 ⟨vs, H1, I1, r1, r, hr, q1⟩ => hr pins s1 σ H1 vs us Q I1 r1 q1) he hpl
end

/-! ### statements -/
/-- what follows the statements of a suite -/
def thenR (k : TEnv → Mem → Prop) (R : RK) : RK
  | .nx τ, M => k τ M
  | o, M => R o M
/-- a loop's body -/
def loopR (N k : TEnv → Mem → Prop) (R : RK) : RK
  | .nx τ, M => N τ M
  | .ct τ, M => N τ M
  | .bk τ, M => k τ M
  | .rt d, M => R (.rt d) M
  | .ex x τ, M => R (.ex x τ) M
section
variable {X : Cx} {T : Bool} {τ : TEnv} {M : Mem} {R : RK} {e a b c : Expr} {es : List Expr} {pos : Pos} {rest : List Stmt}
theorem ex_out {K : PySem.W.Frag} {G H : Hp} {D : Ends} {W : WX} {σ : L2.St} (hP : CS' K G M H R D W) (hE : DenE K τ G σ) : CX' K G M H (fun x M' => R (.ex x τ) M') (fun c d H2 => W c d σ H2) :=
  fun x M2 G2 H2 d r s h dx => hP _ _ _ _ r s h σ d (hE.up s.gg) dx
theorem ws_nil (h : R (.nx τ) M) : WS X T [] τ M R := .mk fun W tk σ G H hE hH D hR => tWSs_of pss_nil (hR _ _ _ _ h Stp.refl hH σ hE)
/-- a statement by its own rule, the rest behind it -/
theorem ws_step {st : Stmt} {t : TS} {D : Ends} {σ : L2.St} {H : Hp} (h : PS X st t) (q : t { D with nx := tWSs X T rest D } σ H) : tWSs X T (st :: rest) D σ H := ws_step' (tWS_of h q)
theorem ws_pass (h : WS X T rest τ M R) : WS X T (.Pass pos :: rest) τ M R := .mk fun W tk σ G H hE hH D hR => ws_step ps_pass (h.run W tk σ G H hE hH D hR)
theorem ws_break (h : R (.bk τ) M) : WS X T (.Break pos :: rest) τ M R := .mk fun W tk σ G H hE hH D hR => ws_step ps_break (hR _ _ _ _ h Stp.refl hH σ hE)
theorem ws_cont (h : R (.ct τ) M) : WS X T (.Continue pos :: rest) τ M R := .mk fun W tk σ G H hE hH D hR => ws_step ps_continue (hR _ _ _ _ h Stp.refl hH σ hE)
theorem ws_ret (h : EX X T e τ M (fun d M1 => R (.rt d) M1) (fun x M1 => R (.ex x τ) M1)) : WS X T (.Return (some e) pos :: rest) τ M R := .mk fun W tk σ G H hE hH D hR =>
  ws_step' (s_ret <| h.run W tk σ G H hE hH _ (fun d M2 v G2 H2 r s h2 dv => hR _ _ _ _ r s h2 v dv) (ex_out hR hE))
theorem ws_retN (h : R (.rt .non) M) : WS X T (.Return none pos :: rest) τ M R := .mk fun W tk σ G H hE hH D hR => ws_step ps_retN (hR _ _ _ _ h Stp.refl hH .non den_non)
theorem ws_expr (h : EX X T e τ M (fun _ M1 => WS X T rest τ M1 R) (fun x M1 => R (.ex x τ) M1)) (hs : swapsWith e none pos.line X.env = pure false := by rfl) : WS X T (.Expr e pos :: rest) τ M R := .mk fun W tk σ G H hE hH D hR =>
  ws_step' (s_expr hs <| h.run W tk σ G H hE hH _ (fun d M2 v G2 H2 r s h2 dv => r.run W tk σ G2 H2 (hE.up s.gg) h2 D (hR.step s)) (ex_out hR hE))
/-- x = e -/
theorem ws_set {x : Str} {p : Pos} (h : EX X T e τ M (fun d M1 => WS X T rest (τ.set (ixIn X.N x) (some d)) M1 R) (fun x M1 => R (.ex x τ) M1)) (hi : X.N[ixIn X.N x]? = some x := by rfl) (hx : Loc X.env.scope x := by first | exact Or.inl rfl | exact Or.inr rfl) (hN : X.N.Nodup := by first | decide +kernel | exact of_decide_eq_true (by kernel_rfl))
    (hs : swapsWith e (some (.Name x p)) pos.line X.env = pure false := by rfl) (hf : X.fn x = true ∨ X.env.scope.names.lookup x = some .local := by first | exact .inl rfl | exact .inr rfl | assumption) : WS X T (.Assign [.Name x p] e pos :: rest) τ M R := .mk fun W tk σ G H hE hH D hR => tWSs_len fun hl =>
  ws_step' (s_set hN hi hx hs hf <| h.run W tk σ G H hE hH _ (fun d M2 v G2 H2 r s h2 dv => by
    have hlt : ixIn X.N x < σ.length := by rw [hl]; exact (List.getElem?_eq_some_iff.mp hi).1
    exact r.run W tk _ G2 H2 ((hE.up s.gg).set hlt dv) h2 D (hR.step s)) (ex_out hR hE))
theorem ws_if {t : Expr} {p q : List Stmt} (h : ET X T t τ M (fun k M1 => (k = true → WS X T p τ M1 (thenR (fun τ' M' => WS X T rest τ' M' R) R)) ∧ (k = false → WS X T q τ M1 (thenR (fun τ' M' => WS X T rest τ' M' R) R))) (fun x M1 => R (.ex x τ) M1)) :
    WS X T (.If t p q pos :: rest) τ M R := .mk fun W tk σ G H hE hH D hR => by
  refine ws_step' (s_if ?_)
  refine h.run W tk σ G H hE hH _ ?_ (ex_out hR hE)
  intro k M1 G1 H1 ⟨h1, h2⟩ s1 hs1
  have fin : CS' X.K G1 M1 H1 (thenR (fun τ' M' => WS X T rest τ' M' R) R) { D with nx := tWSs X T rest D } W := fun o M2 G2 H2 r s2 hs2 => by
    cases o with
    | nx τ' => exact fun σ' hE' => r.run W tk σ' G2 H2 hE' hs2 D (hR.step (s1.trans s2))
    | rt d => exact hR _ _ _ _ r (s1.trans s2) hs2
    | bk τ' => exact hR _ _ _ _ r (s1.trans s2) hs2
    | ct τ' => exact hR _ _ _ _ r (s1.trans s2) hs2
    | ex x τ' => exact hR _ _ _ _ r (s1.trans s2) hs2
  cases k with
  | true => exact iteT ((h1 rfl).run W tk σ G1 H1 (hE.up s1.gg) hs1 _ fin)
  | false => exact iteF ((h2 rfl).run W tk σ G1 H1 (hE.up s1.gg) hs1 _ fin)
/-- tg = e, any target -/
theorem ws_asg {tg : Expr} (h : EX X T e τ M (fun d M1 => GX X T tg d τ M1 (fun τ2 M2 => WS X T rest τ2 M2 R) (fun x M2 => R (.ex x τ) M2)) (fun x M1 => R (.ex x τ) M1))
    (hs : swapsWithSole [tg] e pos.line X.env = pure false := by rfl) (hw : swappedStores [tg] e X.env = pure none := by rfl) (h1 : (assignEach [tg] X.env).map (·.2) = [assign tg X.env] := by rfl) : WS X T (.Assign [tg] e pos :: rest) τ M R := .mk fun W tk σ G H hE hH D hR =>
  ws_step' (s_asg hs hw h1 <| h.run W tk σ G H hE hH _ (fun d M2 v G2 H2 r s h2 dv =>
    r.run W tk σ G2 H2 v (hE.up s.gg) h2 dv _ (fun τ3 M3 G3 H3 σ3 r3 s3 h3 e3 => r3.run W tk σ3 G3 H3 e3 h3 D (hR.step (s.trans s3))) ((ex_out hR hE).step s)) (ex_out hR hE))
/-! ### targets -/
theorem gx_name {x : Str} {p : Pos} {d : Dat} {P : TEnv → Mem → Prop} {E : XKx} (h : P (τ.set (ixIn X.N x) (some d)) M) (hi : X.N[ixIn X.N x]? = some x := by rfl) (hx : Loc X.env.scope x := by first | exact Or.inl rfl | exact Or.inr rfl) (hN : X.N.Nodup := by first | decide +kernel | exact of_decide_eq_true (by kernel_rfl))
    (hf : X.fn x = true ∨ X.env.scope.names.lookup x = some .local := by first | exact .inl rfl | exact .inr rfl | assumption) : GX X T (.Name x p) d τ M P E := .mk fun W tk σ G H v hE hH dv Q hP hX => tWG_len fun hl => by
  refine tWG_of (pg_name hN hi hx hf) ?_
  have hlt : ixIn X.N x < σ.length := by rw [hl]; exact (List.getElem?_eq_some_iff.mp hi).1
  exact hP _ _ _ _ _ h Stp.refl hH (hE.set hlt dv)
end
end Kh

set_option Elab.async false
set_option linter.all false
set_option maxRecDepth 100000
set_option maxHeartbeats 1000000
namespace Kh
open PySem PySem.Spec L2
open PyProof.Rows (isTrue_plain)

/-! ### what a def promises -/
/-- the arguments, the cells it is told of; what is wanted of its value and the cells behind it; of what it lets out -/
abbrev Spc := List Dat → Mem → PK' → XKx → Prop
def toSp (K : PySem.W.Frag) (S : Spc) : Sp := fun vs H Q E => ∃ G ds M P PE, DenL K G ds vs ∧ Hst K G M H ∧ S ds M P PE ∧ CE' K G M H P Q ∧ CX' K G M H PE E
abbrev FnD (P : Program) (w : World) (K : PySem.W.Frag) (mg : Str → Option Value) (base : Heap) (k : Nat) (f : Addr) (fd : FuncData) (ps : List Str) (S : Spc) : Prop := FnOk P w K mg base (L2.CX P w) k f fd ps (toSp K S)
/-- a part of the cells is handed to the def, the rest stays -/
def AP (S : Spc) (ds : List Dat) (M : Mem) (P : PK') (E : XKx) : Prop :=
  ∃ Mc Mr, M.Perm (Mc ++ Mr) ∧ S ds Mc (fun d Mc2 => ∃ M2, (Mc2 ++ Mr).Perm M2 ∧ P d M2) (fun x Mc2 => ∃ M2, (Mc2 ++ Mr).Perm M2 ∧ E x M2)
theorem ap_none {S : Spc} {ds : List Dat} {M : Mem} {P : PK'} {E : XKx} (h : S ds [] (fun d Mc2 => P d (Mc2 ++ M)) (fun x Mc2 => E x (Mc2 ++ M))) (hm : ∀ P P' E E', (∀ d M, P d M → P' d M) → (∀ d M, E d M → E' d M) → S ds [] P E → S ds [] P' E') : AP S ds M P E :=
  ⟨[], M, List.Perm.refl _, hm _ _ _ _ (fun d Mc p => ⟨_, List.Perm.refl _, p⟩) (fun d Mc p => ⟨_, List.Perm.refl _, p⟩) h⟩
theorem ap_toSp {K : PySem.W.Frag} {S : Spc} {ds : List Dat} {M : Mem} {P : PK'} {E : XKx} {G H : Hp} {vs : List V} {Q : VK} {T : XK} (h : AP S ds M P E) (dv : DenL K G ds vs) (hH : Hst K G M H) (hP : CE' K G M H P Q) (hX : CX' K G M H E T) : toSp K S vs H Q T := by
  obtain ⟨Mc, Mr, pm, hs⟩ := h
  have hH' := hH.perm pm
  refine ⟨G, ds, Mc, _, _, dv, hH'.left, hs, ?_, ?_⟩
  · intro d Mc2 v G2 H2 ⟨M2, p2, hp⟩ s h2 dd
    obtain ⟨s3, h3⟩ := Stp.frame hH' s h2
    exact hP d M2 v G2 H2 hp (s3.perm pm.symm p2) (h3.perm p2) dd
  · intro x Mc2 G2 H2 d ⟨M2, p2, hp⟩ s h2 dd
    obtain ⟨s3, h3⟩ := Stp.frame hH' s h2
    exact hX x M2 G2 H2 d hp (s3.perm pm.symm p2) (h3.perm p2) dd

/-- the ends of a def -/
def retR (P : PK') (E : XKx) : RK
  | .rt d, M => P d M
  | .nx _, M => P .non M
  | .ex x _, M => E x M
  | _, _ => False
def startT (N : List Str) (ds : List Dat) : TEnv := ds.map some ++ List.replicate (N.length - ds.length) none
theorem denE_start {K : PySem.W.Frag} {G : Hp} {N : List Str} {ds : List Dat} {vs : List V} (h : DenL K G ds vs) : DenE K (startT N ds) G (L2.start N vs) := fun i d e => by
  unfold startT at e
  have hi : i < ds.length := by
    by_cases hi : i < ds.length
    · exact hi
    · rw [List.getElem?_append_right (by simpa using hi), List.getElem?_replicate] at e
      split at e <;> cases e
  rw [List.getElem?_append_left (by simpa using hi), List.getElem?_map] at e
  cases q : ds[i]? with
  | none => rw [q] at e; cases e
  | some d' =>
    rw [q] at e; cases e
    obtain ⟨v, h1, h2⟩ := h.get q
    refine ⟨v, ?_, h2⟩
    unfold L2.start
    rw [List.getElem?_append_left (by rw [List.length_map, h.length]; exact hi), List.getElem?_map, h1]
    rfl
theorem cs_ret {K : PySem.W.Frag} {G H : Hp} {M : Mem} {P : PK'} {E : XKx} {Q : VK} {W : WX} (hP : CE' K G M H P Q) (hX : CX' K G M H E (fun c d H2 => ∀ σ, W c d σ H2)) : CS' K G M H (retR P E) { nx := fun _ H' => Q .non H', rt := Q } W := fun o M2 G2 H2 r s h => by
  cases o with
  | nx τ => exact fun σ _ => hP _ _ _ _ _ r s h den_non
  | rt d => exact fun v dv => hP _ _ _ _ _ r s h dv
  | bk τ => exact r.elim
  | ct τ => exact r.elim
  | ex x τ => exact fun σ d _ dx => hX _ _ _ _ _ r s h dx σ
section
variable {P : Program} {w : World} {K : PySem.W.Frag} {mg : Str → Option Value} {base : Heap}
/-- binding parameters, one of them a local: a token is out behind it -/
theorem bind_toks {M : Model} {A : Around} {E : Value → Shared → Prop} {s₀ : Shared} {env : Env} (f : Str × Value → PUnit → Sem (ForInStep PUnit)) (hf : ∀ n v u, f (n, v) u = (do storeName env n v; pure (.yield ⟨⟩))) (hk : env.scope.kind = .function) :
    ∀ (bs : List (Str × Value)) (m cm : Str → Option Value) (s : Shared) (Q : PUnit → Shared → Prop), InCallC s₀ env.locals m env.cells cm s →
      (∀ x ∈ bs, env.kindOf x.1 = some .local ∨ (env.kindOf x.1 = some .cell ∧ (env.cells.lookup x.1).isSome = true)) → (∃ x ∈ bs, env.kindOf x.1 = some .local) →
      (∀ s', 1 ≤ s'.toks → InCallC s₀ env.locals (bindL env.kindOf bs m) env.cells (bindC env.kindOf bs cm) s' → Q ⟨⟩ s') → wpAny M A (forIn bs ⟨⟩ f) Q E s
  | [], m, cm, s, Q, x, _, ⟨y, hy, _⟩, h => by cases hy
  | (n, v) :: r, m, cm, s, Q, x, kinds, he, h => by
    rw [List.forIn_cons, hf]
    have kr : ∀ y ∈ r, env.kindOf y.1 = some .local ∨ (env.kindOf y.1 = some .cell ∧ (env.cells.lookup y.1).isSome = true) := fun y hy => kinds y (List.mem_cons_of_mem _ hy)
    rcases kinds (n, v) List.mem_cons_self with hl | ⟨hl, hc⟩
    · refine wpAny_bind (wpAny_bind (wpAny_storeName_local hl x.toInCall.ns (fun h' hn' hs' => wpAny_pure ?_) (by rw [hk]; rfl)))
      have x' : InCallC s₀ env.locals (fun y => if y = n then some v else m y) env.cells cm { s with heap := h', toks := s.toks + 1 } := by
        refine ⟨⟨?_, hn', fun b o e => ?_, x.toInCall.fresh⟩, fun k c hc => ?_, x.apart, x.above⟩
        · obtain ⟨h₁, tk, rfl⟩ := x.toInCall.same
          exact ⟨h', _, rfl⟩
        · exact hs'.extBut b o (Nat.ne_of_lt (Nat.lt_of_lt_of_le (Heap.lt_size e) x.toInCall.fresh)) (x.toInCall.keep b o e)
        · exact (x.cell k c hc).sameBut hs' (Nat.ne_of_gt (x.above k c (mem_of_lookup hc)))
      refine wpAny_with_toks (n := 1) (show 1 ≤ s.toks + 1 by omega) ?_
      refine wpAny_mono (E := fun e s' => E e s') (wpAny_bindParams f hf hk r _ _ _ (fun u s'' => 1 ≤ s''.toks → Q u s'') x' kr fun s'' x'' k => h s'' k ?_) (fun _ _ q => q) fun _ _ q _ => q
      unfold bindL bindC; rw [if_pos hl, if_pos hl]; exact x''
    · obtain ⟨c, hc⟩ := Option.isSome_iff_exists.mp hc
      have hnl : ¬ env.kindOf n = some .local := by rw [hl]; decide
      have hr : ∃ y ∈ r, env.kindOf y.1 = some .local := by
        obtain ⟨y, hy, hy2⟩ := he
        rcases List.mem_cons.mp hy with rfl | hy
        · exact absurd hy2 hnl
        · exact ⟨y, hy, hy2⟩
      refine wpAny_bind (wpAny_bind (stCC x hk hl hc fun s' x' => wpAny_pure (bind_toks f hf hk r _ _ s' Q x' kr hr fun s'' k x'' => h s'' k ?_)))
      unfold bindL bindC; rw [if_neg hnl, if_neg hnl]; exact x''
theorem newEnv_toks {M : Model} {A : Around} {E : Value → Shared → Prop} {s : Shared} {scope : Scope} {globals : Addr} {bs : List (Str × Value)} {qual : Str} {func : Option Addr} {code : Value} {builtins : Addr} {Q : Env → Shared → Prop}
    (hk : scope.kind = .function)
    (kinds : ∀ x ∈ bs, scope.names.lookup x.1 = some .local ∨ (scope.names.lookup x.1 = some .cell ∧ ((cellsFrom (s.heap.objs.size + 1) scope.names []).lookup x.1).isSome = true)) (he : ∃ x ∈ bs, scope.names.lookup x.1 = some .local)
    (hQ : ∀ env, env = newEnv scope s.heap.objs.size globals (cellsFrom (s.heap.objs.size + 1) scope.names []) qual func code none builtins →
      ∀ s', 1 ≤ s'.toks → InCallC s env.locals (bindL env.kindOf bs fun _ => none) env.cells (bindC env.kindOf bs fun _ => none) s' → Q env s') :
    wpAny M A (newFunctionEnv scope globals [] bs qual func code none builtins) Q E s := by
  simp only [newFunctionEnv, Option.isSome_none, Bool.false_eq_true, if_false]
  refine wpAny_bind (wpAny_alloc (wpAny_bind (wpAny_layCells _ (fun name kind cells => by cases hkc : kind == NameKind.cell <;> simp [hkc]) _ _ _ _ ?_)))
  have ok := cellsFrom_ok scope.names (s.heap.push { cls := .type "frame", data := .dict #[] }) (s.heap.objs.size + 1) [] ⟨fun _ _ hm => (nomatch hm), List.Pairwise.nil⟩ (by rw [Heap.size_push]; exact Nat.le_refl _)
  rw [Heap.size_push] at ok
  rw [show ({ s with heap := s.heap.push { cls := .type "frame", data := .dict #[] } } : Shared).heap.objs.size = s.heap.objs.size + 1 from Heap.size_push ..]
  exact wpAny_bind (bind_toks (s₀ := s) (env := newEnv scope s.heap.objs.size globals (cellsFrom (s.heap.objs.size + 1) scope.names []) qual func code none builtins) _ (fun _ _ _ => rfl) hk bs (fun _ => none) (fun _ => none) _ _
    ⟨⟨⟨_, _, rfl⟩, (Heap.Ns.new s.heap (.type "frame")).keeps (pushCells_keeps _ _), fun b o e => pushCells_keeps _ _ b o (Heap.get?_push_of_some _ e), Nat.le_refl _⟩, fun n c hc => (ok.empty n c (mem_of_lookup hc)).1, ok.apart, fun n c hm => (ok.empty n c hm).2⟩
    kinds he fun s' k x => wpAny_pure (hQ _ rfl s' k x))
/-- a body, at its entry: with T where a parameter is a local -/
theorem fn_w {CX : CXT} {k : Nat} {f : Addr} {name qual : Str} {params : Arguments} {body : List Stmt} {scope : Scope} {dV kV doc pm cdv ct oc : Value} {an od : Option Addr} {T : Bool}
    {osl : Array (Option Value)} {N ps : List Str} {sp : Sp} (lk : K.lookup f = some ⟨oc, od, .func (PySem.W.fnOf name qual params body scope dV kV doc pm an cdv ct), osl⟩) (hcd : PySem.W.codeIn K cdv qual = true) (S : FnScope N ps scope) (hT : T = true → ∃ x ∈ ps, scope.names.lookup x = some .local)
    (len : ∀ vs H Q E, sp vs H Q E → vs.length = ps.length)
    (hbody : ∀ (A : Around) (outer : List Env) (s : Shared) (H : Hp) (vs : List V) (Q : VK) (E : XK), Room k (A.deeper (PyProof.Rows.envOfC qual scope s.heap.objs.size f cdv)) → sp vs H Q E →
      tWSs (cxOf CX P w K mg base N qual scope f cdv A outer s H E) T body { nx := fun _ H' => Q .non H', rt := Q } (L2.start N vs) H) :
    FnOk P w K mg base CX (k + 1) f (PySem.W.fnOf name qual params body scope dV kV doc pm an cdv ct) ps sp := by
  refine ⟨len, fun A outer s H args us vs Q E hr e0 hb r hsp => ?_⟩
  have hl := len _ _ _ _ hsp
  have KX : K.In s.heap := e0.mod.kin.keeps fun b o e => (e0.bs b o e).1
  have lim : s.heap.NoLimit := e0.mod.nolimit.keeps fun b o e => (e0.bs b o e).1
  have kinds : ∀ y ∈ ps.zip us, scope.names.lookup y.1 = some .local ∨ (scope.names.lookup y.1 = some .cell ∧ ((cellsFrom (s.heap.objs.size + 1) scope.names []).lookup y.1).isSome = true) := fun ⟨n, v⟩ hy => by
    rcases S.par n (List.of_mem_zip hy).1 with q | q
    · exact .inl q
    · exact .inr ⟨q, PySem.W.cellsFrom_some _ _ _ (.inl q)⟩
  refine codeAny_call_function hr.depth (KX _ _ lk) rfl S.co S.gen rfl (PySem.W.codeRec_of KX hcd) (hb _ _ _ _ ?_)
  have main : ∀ env, env = newEnv scope s.heap.objs.size mainGlobals (cellsFrom (s.heap.objs.size + 1) scope.names []) (qual ++ ".<locals>.") (some f) cdv none builtinsNs → ∀ s1, Tk T s1 → InCallC s env.locals (bindL env.kindOf (ps.zip us) fun _ => none) env.cells (bindC env.kindOf (ps.zip us) fun _ => none) s1 →
      s1.heap.NoLimit ∧ codeAny (model P w) A (.func body env) (CR CX outer P w H s Q E) s1 := by
    intro env he s1 hk x
    subst he
    refine ⟨lim.keeps x.toInCall.keep, codeAny_func ?_⟩
    have ht := hbody A outer s H vs Q E (hr.deeper _) hsp
    have I : Inv (cxOf CX P w K mg base N qual scope f cdv A outer s H E) [] (L2.start N vs) H s1 := inv_start S hr.hd e0 hl r x
    refine wpAny_mono (ht [] s1 hk I) (fun fl s' hs => ?_) fun e s' hs => hs
    cases fl with
    | ret u =>
      obtain ⟨v, σ', H', J, rv, q⟩ := hs
      exact ⟨v, H', J.os, J.bare, J.base, J.hok, rv, q⟩
    | next =>
      obtain ⟨σ', H', J, q⟩ := hs
      exact ⟨V.non, H', J.os, J.bare, J.base, J.hok, (rfl : Value.none = Value.none), q⟩
    | brk => obtain ⟨_, _, _, q⟩ := hs; exact False.elim q
    | cont => obtain ⟨_, _, _, q⟩ := hs; exact False.elim q
  cases T with
  | false => exact wpAny_newFunctionEnv_cells S.kind kinds fun env he s1 x => main env he s1 tk_f x
  | true =>
    refine newEnv_toks S.kind kinds ?_ fun env he s1 k x => main env he s1 (fun _ => k) x
    obtain ⟨x, hx, h2⟩ := hT rfl
    obtain ⟨i, hi, e⟩ := List.getElem_of_mem hx
    have hul : us.length = ps.length := by rw [← r.length, hl]
    exact ⟨(ps[i], us[i]'(by omega)), List.mem_of_getElem? (i := i) (by rw [List.getElem?_zip_eq_some]; exact ⟨List.getElem?_eq_getElem hi, List.getElem?_eq_getElem _⟩), by rw [e]; exact h2⟩
/-- THE RULE for a def that may raise (or not) -/
theorem fn_d {x qual : Str} {st : Stmt} {f : Addr} {fd : FuncData} {N ps : List Str} {k : Nat} {S : Spc} (T : Bool) (F : Fun K x qual st f fd) (Sc : FnScope N ps (defScope st)) (hT : T = true → ∃ x ∈ ps, (defScope st).names.lookup x = some .local) (len : ∀ ds M P E, S ds M P E → ds.length = ps.length)
    (body : ∀ (cdv : Value) (A : Around) (outer : List Env) (s : Shared) (H : Hp) (E : XK), Room k (A.deeper (PyProof.Rows.envOfC qual (defScope st) s.heap.objs.size f cdv)) → ∀ ds M Pd PE, S ds M Pd PE →
      WS (cxOf (L2.CX P w) P w K mg base N qual (defScope st) f cdv A outer s H E) T (defBody st) (startT N ds) M (retR Pd PE)) : FnD P w K mg base (k + 1) f fd ps S := by
  obtain ⟨oc, od, kV, doc, pm, an, cdv, ct, osl, rfl, lk, hcd⟩ := F.ex
  refine fn_w (T := T) lk hcd Sc hT (fun vs H Q E h => ?_) (fun A outer s H vs Q E hr h => ?_)
  · obtain ⟨G, ds, M, Pd, PE, dv, _, hs, _⟩ := h
    rw [dv.length]; exact len _ _ _ _ hs
  · obtain ⟨G, ds, M, Pd, PE, dv, hH, hs, hP, hX⟩ := h
    exact (body cdv A outer s H E hr ds M Pd PE hs).run _ (takes_of rfl rfl rfl rfl) _ G H (denE_start dv) hH _ (cs_ret hP fun x M2 G2 H2 d p s h dx σ => hX x M2 G2 H2 d p s h dx)
/-- the law's own def: nothing leaves it -/
theorem fn_law {x qual : Str} {st : Stmt} {f : Addr} {fd : FuncData} {N ps : List Str} {k : Nat} {S : Spc} (T : Bool) (F : Fun K x qual st f fd) (Sc : FnScope N ps (defScope st)) (hT : T = true → ∃ x ∈ ps, (defScope st).names.lookup x = some .local) (len : ∀ ds M P E, S ds M P E → ds.length = ps.length)
    (body : ∀ (cdv : Value) (A : Around) (outer : List Env) (s : Shared) (H : Hp), Room k (A.deeper (PyProof.Rows.envOfC qual (defScope st) s.heap.objs.size f cdv)) → ∀ ds M Pd PE, S ds M Pd PE →
      WS (cxOf CX0 P w K mg base N qual (defScope st) f cdv A outer s H L2.E0).nox T (defBody st) (startT N ds) M (retR Pd E0')) : FnOk P w K mg base CX0 (k + 1) f fd ps (toSp K S) := by
  obtain ⟨oc, od, kV, doc, pm, an, cdv, ct, osl, rfl, lk, hcd⟩ := F.ex
  refine fn_w (T := T) lk hcd Sc hT (fun vs H Q E h => ?_) (fun A outer s H vs Q E hr h => ?_)
  · obtain ⟨G, ds, M, Pd, PE, dv, _, hs, _⟩ := h
    rw [dv.length]; exact len _ _ _ _ hs
  · obtain ⟨G, ds, M, Pd, PE, dv, hH, hs, hP, hX⟩ := h
    intro pins s1 tk I
    have q := (body cdv A outer s H hr ds M Pd PE hs).run _ takes0 _ G H (denE_start dv) hH _ (cs_ret hP fun x M2 G2 H2 d p => p.elim) pins s1 tk (I.wish _)
    exact wpAny_mono q (fun _ _ z => z.unwish) fun _ _ z => False.elim z
end

/-! ### calls -/
section
variable {X : Cx} {T : Bool} {τ : TEnv} {M : Mem} {P : PK'} {E : XKx} {e o a b c : Expr} {es : List Expr} {pos p apos : Pos} {k : Nat} {f C : Addr} {fd : FuncData} {ps : List Str} {S : Spc} {dvs : List V} {df : List Dat} {dsv : List Value} {x m : Str}
theorem run_d {pins : List (Addr × Obj)} {σ : L2.St} {H : Hp} {s : Shared} {Q : VK} {us : List Value} {vs : List V} {W : WX} (F : FnD X.prog X.w X.K X.mg X.base k f fd ps S) (hr : Room k X.A) (hb : Binds X.K fd ps dsv) (hd : Vals dvs dsv) (tk : Takes X W)
    (I : Inv X pins σ H s) (r : Vals vs us) (h : toSp X.K S (vs ++ dvs) H Q (fun c d H2 => W c d σ H2)) : wpAny (model X.prog X.w) X.A (call (.ref f) us) (EP X pins σ Q) X.xe s :=
  run_fnSD (E := fun σ c d H2 => W c d σ H2) F hr hb hd (fun pins H s e s' I c => tk e s' (XE.of_call I (fun cls d H' h => h) c)) I r h
/-- f(e, ..) -/
theorem ex_call (F : FnD X.prog X.w X.K X.mg X.base k f fd ps S) (hr : Room k X.A) (hm : X.mg x = some (.ref f)) (hk : PySem.W.keepIn X.K (.ref f) = true) (hb : Binds X.K fd ps dsv) (hd : Vals dvs dsv) (hdf : ∀ G, DenL X.K G df dvs)
    (h : EA X T (e :: es) τ M (fun ds M1 => AP S (ds ++ df) M1 P E) E) (hg : Gl X x := by rfl) (hdb : (x == ("__debug__" : Str)) = false := by decide) (he : starEach (e :: es) X.env = (false, eval e X.env) :: starEach es X.env := by rfl) (hpl : (backTo pos (starEach es X.env)).any (·.1) = false := by rfl) :
    EX X T (.Call (.Name x p) (e :: es) [] pos) τ M P E := by
  refine .mk ?_; intro W tk σ G H hE hH Q hP hX pins s k0 I
  refine wpAny_Call_Name_kw (ld_glob I hg hm ?_ hdb)
  have hA := h.run W tk σ G H hE hH (fun vs H1 => toSp X.K S (vs ++ dvs) H1 Q (fun c d H2 => W c d σ H2)) (fun ds M1 vs G1 H1 ha s1 h1 dv => ap_toSp ha (dv.append (hdf G1)) h1 (hP.step s1) (hX.step s1)) hX
  refine PySem.W.callWith_K (h₀ := X.base) I.ok.mod.kin hk (thn (hA pos pins s k0 I) fun us s1 ⟨vs, H1, I1, r, q⟩ => ⟨I1.kIn, ?_⟩) he hpl
  exact run_d F hr hb hd tk I1 r q
theorem ex_call0 (F : FnD X.prog X.w X.K X.mg X.base k f fd ps S) (hr : Room k X.A) (hm : X.mg x = some (.ref f)) (hk : PySem.W.keepIn X.K (.ref f) = true) (hb : Binds X.K fd ps dsv) (hd : Vals dvs dsv) (hdf : ∀ G, DenL X.K G df dvs)
    (h : AP S df M P E) (hg : Gl X x := by rfl) (hdb : (x == ("__debug__" : Str)) = false := by decide) : EX X T (.Call (.Name x p) [] [] pos) τ M P E := by
  refine .mk ?_; intro W tk σ G H hE hH Q hP hX pins s k0 I
  refine wpAny_Call_Name_kw (ld_glob I hg hm ?_ hdb)
  exact PySem.W.callWith_K0 I.kIn hk (run_d (us := []) (vs := []) F hr hb hd tk I .nil (ap_toSp h (hdf G) hH hP hX))
/-- an instance of the class at C without a field m -/
def IsI (C : Addr) (m : Str) (M : Mem) (d : Dat) : Prop := (∃ ns ds, d = .obj C ns ds ∧ m ∉ ns) ∨ ∃ p dx fs, d = .raw (.ref p) ∧ (p, MC.ins C dx fs) ∈ M ∧ m ∉ fs.map (·.1)
theorem lookup_none_of {α : Type} : ∀ {l : List (Str × α)} {m : Str}, m ∉ l.map (·.1) → l.lookup m = none
  | [], _, _ => rfl
  | (n, v) :: r, m, h => by
    have h1 : (m == n) = false := by
      cases q : m == n with
      | false => rfl
      | true => exact absurd (List.mem_map.mpr ⟨(n, v), List.mem_cons_self, (eq_of_beq q).symm⟩) h
    rw [List.lookup_cons, h1]
    exact lookup_none_of fun z => h (List.mem_cons_of_mem _ z)
theorem zip_fst_sub {α β : Type} {a : α} : ∀ {l : List α} {r : List β}, a ∈ (l.zip r).map (·.1) → a ∈ l
  | [], _, h => by simp at h
  | _ :: _, [], h => by simp at h
  | x :: l, y :: r, h => by
    rw [List.zip_cons_cons, List.map_cons] at h
    rcases List.mem_cons.mp h with e | h
    · exact List.mem_cons.mpr (.inl e)
    · exact List.mem_cons_of_mem _ (zip_fst_sub h)
theorem IsI.get {K : PySem.W.Frag} {G H : Hp} {d : Dat} {v : V} (h : IsI C m M d) (hH : Hst K G M H) (dv : Den K G d v) : ∃ a dx fs, v = .ref a ∧ H a = some (.ins C dx fs) ∧ fs.lookup m = none := by
  rcases h with ⟨ns, ds, rfl, hm⟩ | ⟨q, dx, fs, rfl, hq, hm⟩
  · obtain ⟨a, dx, vs, rfl, h1, h2, h3⟩ := dv.obj_inv
    exact ⟨a, dx, _, rfl, hH.sub _ _ h1, lookup_none_of fun z => hm (zip_fst_sub z)⟩
  · obtain ⟨vs, h1, h2, h3⟩ := hH.mem _ hq
    exact ⟨q, dx, vs, dv.raw_inv, h1, lookup_none_of fun z => hm (by rw [← h3.1]; exact z)⟩
/-- o.m(e, ..) -/
theorem ex_meth {g : Addr} {pl : Sem Bool} (c : Cls X.K C) (hm : Meth X.K C m g) (F : FnD X.prog X.w X.K X.mg X.base k g fd ps S) (hr : Room k X.A) (hb : Binds X.K fd ps dsv) (hd : Vals dvs dsv) (hdf : ∀ G, DenL X.K G df dvs)
    (h : EX X T o τ M (fun d M1 => IsI C m M1 d ∧ EA X T (e :: es) τ M1 (fun ds M2 => AP S (d :: (ds ++ df)) M2 P E) E) E)
    (ht : eval (.Call (.Attribute o m apos) (e :: es) [] pos) X.env = (do let ov ← eval o X.env; standAt apos.atName; let (f, first) ← holding [ov] (getMethod ov m pl); callWith pos f first (backTo pos (starEach (e :: es) X.env)) []) := by rfl)
    (he : starEach (e :: es) X.env = (false, eval e X.env) :: starEach es X.env := by rfl) (hpl : (backTo pos (starEach es X.env)).any (·.1) = false := by rfl) :
    EX X T (.Call (.Attribute o m apos) (e :: es) [] pos) τ M P E := by
  refine .mk ?_; intro W tk σ G H hE hH Q hP hX pins s k0 I
  have hO := h.run W tk σ G H hE hH (fun x H1 => ∃ a dx fs, x = .ref a ∧ H1 a = some (.ins C dx fs) ∧ fs.lookup m = none ∧ tWA X T (e :: es) σ H1 fun vs H2 => toSp X.K S (x :: (vs ++ dvs)) H2 Q (fun c d H3 => W c d σ H3)) (fun d M1 v G1 H1 ⟨hi, ha⟩ s1 h1 dv => by
    obtain ⟨a, dx, fs, e1, e2, e3⟩ := hi.get h1 dv
    exact ⟨a, dx, fs, e1, e2, e3, ha.run W tk σ G1 H1 (hE.up s1.gg) h1 _ (fun ds M2 vs G2 H2 hp s2 h2 dvs2 => ap_toSp hp (.cons (dv.up s2.gg) (dvs2.append (hdf G2))) h2 (hP.step (s1.trans s2)) (hX.step (s1.trans s2))) (hX.step s1)⟩) hX
  refine PySem.W.methodCall_KW (pl := pl) (thnT k0 (hO pins s k0 I) fun u s1 k1 ⟨x, H1, I1, rx, a, dx, fs, ex, ea, l, q⟩ => ?_) ht
  subst ex
  obtain rfl : u = Value.ref a := rx
  refine getmeth_ok I1 ea c hm l ?_
  refine PySem.W.callWith_K (h₀ := X.base) (first := [.ref a]) I1.ok.mod.kin hm.kp (thn (q pos pins s1 k1 I1) fun us s2 ⟨vs, H2, I2, r, q2⟩ => ⟨I2.kIn, ?_⟩) he hpl
  exact run_d (us := .ref a :: us) (vs := .ref a :: vs) F hr hb hd tk I2 (.cons rfl r) q2
theorem ex_meth0 {g : Addr} {pl : Sem Bool} (c : Cls X.K C) (hm : Meth X.K C m g) (F : FnD X.prog X.w X.K X.mg X.base k g fd ps S) (hr : Room k X.A) (hb : Binds X.K fd ps dsv) (hd : Vals dvs dsv) (hdf : ∀ G, DenL X.K G df dvs)
    (h : EX X T o τ M (fun d M1 => IsI C m M1 d ∧ AP S (d :: df) M1 P E) E)
    (ht : eval (.Call (.Attribute o m apos) [] [] pos) X.env = (do let ov ← eval o X.env; standAt apos.atName; let (f, first) ← holding [ov] (getMethod ov m pl); callWith pos f first (backTo pos (starEach [] X.env)) []) := by rfl) :
    EX X T (.Call (.Attribute o m apos) [] [] pos) τ M P E := by
  refine .mk ?_; intro W tk σ G H hE hH Q hP hX pins s k0 I
  have hO := h.run W tk σ G H hE hH (fun x H1 => ∃ a dx fs, x = .ref a ∧ H1 a = some (.ins C dx fs) ∧ fs.lookup m = none ∧ toSp X.K S (x :: dvs) H1 Q (fun c d H3 => W c d σ H3)) (fun d M1 v G1 H1 ⟨hi, ha⟩ s1 h1 dv => by
    obtain ⟨a, dx, fs, e1, e2, e3⟩ := hi.get h1 dv
    exact ⟨a, dx, fs, e1, e2, e3, ap_toSp ha (.cons dv (hdf G1)) h1 (hP.step s1) (hX.step s1)⟩) hX
  refine PySem.W.methodCall_KW (pl := pl) (thnT k0 (hO pins s k0 I) fun u s1 k1 ⟨x, H1, I1, rx, a, dx, fs, ex, ea, l, q⟩ => ?_) ht
  subst ex
  obtain rfl : u = Value.ref a := rx
  refine getmeth_ok I1 ea c hm l ?_
  exact PySem.W.callWith_K0 (first := [.ref a]) I1.kIn hm.kp (run_d (us := [.ref a]) (vs := [.ref a]) F hr hb hd tk I1 (.cons rfl .nil) q)
/-- e.f, a property -/
theorem ex_prop {q g : Addr} {n : Str} (c : Cls X.K C) (hp : PropOf X.K C n q g) (F : FnD X.prog X.w X.K X.mg X.base k g fd ps S) (hr : Room (k + 1) X.A) (hb : Binds X.K fd ps [])
    (h : EX X T e τ M (fun d M1 => (∃ m, IsI C m M1 d) ∧ AP S [d] M1 P E0') E) (hab : attributeBase e n X.env (eval e X.env) = eval e X.env := by rfl) : EX X T (.Attribute e n pos) τ M P E := by
  refine .mk ?_; intro W tk σ G H hE hH Q hP hX
  intro pins s k0 I
  have hO := h.run W tk σ G H hE hH (fun x H1 => ∃ a dx fs, x = .ref a ∧ H1 a = some (.ins C dx fs) ∧ toSp X.K S [x] H1 Q L2.E0) (fun d M1 v G1 H1 ⟨⟨m, hi⟩, ha⟩ s1 h1 dv => by
    obtain ⟨a, dx, fs, e1, e2, e3⟩ := hi.get h1 dv
    exact ⟨a, dx, fs, e1, e2, ap_toSp ha (.cons dv .nil) h1 (hP.step s1) noX⟩) hX
  refine attr_of hab (thn (hO pins s k0 I) fun u s1 ⟨x, H1, I1, rx, a, dx, fs, ex, ea, q⟩ => ?_)
  subst ex
  obtain rfl : u = Value.ref a := rx
  exact getprop_ok (dvs := []) I1 ea c hp F hr hb .nil passL q
/-- a field of an instance -/
def FldI (K : PySem.W.Frag) (n : Str) (M : Mem) (d z : Dat) : Prop := ∃ C, Cls K C ∧ NoAttr K C n ∧ ((∃ ns ds, d = .obj C ns ds ∧ ns.length = ds.length ∧ (ns.zip ds).lookup n = some z) ∨ ∃ p dx fs, d = .raw (.ref p) ∧ (p, MC.ins C dx fs) ∈ M ∧ fs.lookup n = some z)
theorem denL_lookup {K : PySem.W.Frag} {G : Hp} : ∀ {ns : List Str} {ds : List Dat} {vs : List V} {n : Str} {z : Dat}, DenL K G ds vs → (ns.zip ds).lookup n = some z → ∃ v, (ns.zip vs).lookup n = some v ∧ Den K G z v
  | [], _, _, _, _, _, h => by simp at h
  | _ :: _, [], _, _, _, _, h => by simp at h
  | y :: ns, d :: ds, _, n, z, q, h => by
    obtain ⟨v, r, rfl, hv, t⟩ := q.cons_inv
    rw [List.zip_cons_cons, List.lookup_cons] at h ⊢
    cases e : n == y with
    | true => rw [e] at h; cases h; exact ⟨v, rfl, hv⟩
    | false => rw [e] at h; exact denL_lookup t h
theorem denF_lookup {K : PySem.W.Frag} {G : Hp} : ∀ {fs : List (Str × Dat)} {vs : List (Str × V)} {n : Str} {z : Dat}, DenF K G fs vs → fs.lookup n = some z → ∃ v, vs.lookup n = some v ∧ Den K G z v
  | [], _, _, _, _, h => by simp at h
  | (y, d) :: fs, [], _, _, q, h => by have := q.1; simp at this
  | (y, d) :: fs, (y', v) :: vs, n, z, q, h => by
    obtain ⟨h1, h2⟩ := q
    rw [List.map_cons, List.map_cons] at h1
    obtain ⟨e1, e2⟩ := List.cons.inj h1
    have e1 : y' = y := e1
    subst e1
    obtain ⟨v', r, e, hv, t⟩ := (show DenL K G (d :: fs.map (·.2)) (v :: vs.map (·.2)) from h2).cons_inv
    obtain ⟨rfl, rfl⟩ := List.cons.inj e
    rw [List.lookup_cons] at h ⊢
    cases e : n == y' with
    | true => rw [e] at h; cases h; exact ⟨v, rfl, hv⟩
    | false => rw [e] at h; exact denF_lookup ⟨e2, t⟩ h
theorem v_fld {n : Str} {σ : L2.St} {H : Hp} {Q : VK} (hb : attributeBase e n X.env (eval e X.env) = eval e X.env) (q : tW X T e σ H fun x H1 => ∃ a C dx fs v, x = .ref a ∧ H1 a = some (.ins C dx fs) ∧ Cls X.K C ∧ NoAttr X.K C n ∧ fs.lookup n = some v ∧ Q v H1) :
    tW X T (.Attribute e n pos) σ H Q := fun pins s k0 I =>
  attr_of hb (thn (q pins s k0 I) fun u s1 ⟨x, H1, I1, rx, a, C, dx, fs, v, ex, ea, hc, hn, l, q⟩ => by
    subst ex
    obtain rfl : u = Value.ref a := rx
    exact getattr_ok I1 ea hc hn l fun u' s2 I2 ru => ⟨v, H1, I2, ru, q⟩)
theorem ex_fld {n : Str} (h : EX X T e τ M (fun d M1 => ∃ z, FldI X.K n M1 d z ∧ P z M1) E) (hb : attributeBase e n X.env (eval e X.env) = eval e X.env := by rfl) : EX X T (.Attribute e n pos) τ M P E := by
  refine .mk ?_; intro W tk σ G H hE hH Q hP hX
  refine v_fld hb ?_
  refine h.run W tk σ G H hE hH _ ?_ hX
  intro d M1 v G1 H1 ⟨z, ⟨C, hc, hn, hz⟩, hp⟩ s1 h1 dv
  rcases hz with ⟨ns, ds, rfl, hl, hz⟩ | ⟨q, dx, fs, rfl, hq, hz⟩
  · obtain ⟨a, dx, vs, rfl, g1, g2, g3⟩ := dv.obj_inv
    obtain ⟨u, l1, l2⟩ := denL_lookup g3 hz
    exact ⟨a, C, dx, _, u, rfl, h1.sub _ _ g1, hc, hn, l1, hP _ _ _ _ _ hp s1 h1 l2⟩
  · obtain ⟨vs, g1, g2, g3⟩ := h1.mem _ hq
    obtain ⟨u, l1, l2⟩ := denF_lookup g3 hz
    exact ⟨q, C, dx, vs, u, dv.raw_inv, g1, hc, hn, l1, hP _ _ _ _ _ hp s1 h1 l2⟩
/-! ### new instances -/
theorem hst_new {K : PySem.W.Frag} {G H : Hp} {x dx C : Addr} (h : Hst K G M H) (hx : H x = none) (hdx : H dx = none) (ne : dx ≠ x) :
    Hst K G ((x, .ins C dx []) :: M) (upd (upd H dx (.own x)) x (.ins C dx [])) ∧ Stp G M H G ((x, .ins C dx []) :: M) (upd (upd H dx (.own x)) x (.ins C dx [])) := by
  have nM : ∀ b ∈ adr M, b ≠ x ∧ b ≠ dx := fun b hb => ⟨fun e => h.there b hb (by rw [e]; exact hx), fun e => h.there b hb (by rw [e]; exact hdx)⟩
  have kp : ∀ b o, H b = some o → (upd (upd H dx (.own x)) x (.ins C dx [])) b = some o := fun b o e => by
    rw [upd_ne (ne_of_none e hx), upd_ne (ne_of_none e hdx)]; exact e
  have ha : adr ((x, MC.ins C dx []) :: M) = x :: dx :: adr M := rfl
  refine ⟨⟨fun b o e => kp b o (h.sub b o e), fun c hc => ?_, fun b hb => ?_, ?_⟩, ⟨Same.refl _, fun b o _ e => kp b o e, fun _ _ _ g => g, fun b hb => ?_⟩⟩
  · rcases List.mem_cons.mp hc with rfl | hc
    · exact ⟨[], upd_same, by rw [upd_ne ne]; exact upd_same, rfl, .nil⟩
    · exact (h.mem c hc).up (Same.refl _) fun b hb o e => kp b o e
  · rw [ha] at hb
    rcases List.mem_cons.mp hb with rfl | hb
    · exact h.sub.free hx
    · rcases List.mem_cons.mp hb with rfl | hb
      · exact h.sub.free hdx
      · exact h.out b hb
  · rw [ha]
    refine List.nodup_cons.mpr ⟨fun hm => ?_, List.nodup_cons.mpr ⟨fun hm => (nM dx hm).2 rfl, h.nd⟩⟩
    rcases List.mem_cons.mp hm with e | hm
    · exact ne e.symm
    · exact (nM x hm).1 rfl
  · rw [ha] at hb
    rcases List.mem_cons.mp hb with rfl | hb
    · exact .inr hx
    · rcases List.mem_cons.mp hb with rfl | hb
      · exact .inr hdx
      · exact .inl hb
theorem zip_map {α β : Type} : ∀ (l : List (α × β)), (l.map (·.1)).zip (l.map (·.2)) = l
  | [] => rfl
  | (a, b) :: l => by simp only [List.map_cons, List.zip_cons_cons, zip_map l]
/-- a cell of an instance is changed no more -/
theorem freezeI {K : PySem.W.Frag} {G H : Hp} {x dx C : Addr} {fs : List (Str × Dat)} (h : Hst K G ((x, .ins C dx fs) :: M) H) : ∃ G', Stp G ((x, .ins C dx fs) :: M) H G' M H ∧ Hst K G' M H ∧ Den K G' (.obj C (fs.map (·.1)) (fs.map (·.2))) (.ref x) := by
  obtain ⟨vs, h1, h2, h3, h4⟩ := h.mem _ List.mem_cons_self
  have ha : adr ((x, MC.ins C dx fs) :: M) = x :: dx :: adr M := rfl
  have gx : G x = none := h.out x (by rw [ha]; exact List.mem_cons_self)
  have gdx : G dx = none := h.out dx (by rw [ha]; exact List.mem_cons_of_mem _ List.mem_cons_self)
  have nd := h.nd
  rw [ha] at nd
  obtain ⟨n1, n2⟩ := List.nodup_cons.mp nd
  obtain ⟨n3, n4⟩ := List.nodup_cons.mp n2
  have ne : dx ≠ x := fun e => n1 (by rw [e]; exact List.mem_cons_self)
  have up : Same G (upd (upd G dx (.own x)) x (.ins C dx vs)) := fun b o e => by rw [upd_ne (ne_of_none e gx), upd_ne (ne_of_none e gdx)]; exact e
  have sub : Same (upd (upd G dx (.own x)) x (.ins C dx vs)) H := fun b o e => by
    by_cases c : b = x
    · subst c; rw [upd_same] at e; cases e; exact h1
    · rw [upd_ne c] at e
      by_cases c : b = dx
      · subst c; rw [upd_same] at e; cases e; exact h2
      · rw [upd_ne c] at e; exact h.sub b o e
  refine ⟨_, ⟨up, fun _ _ _ e => e, fun b _ hb g => ?_, fun b hb => .inl (by rw [ha]; exact List.mem_cons_of_mem _ (List.mem_cons_of_mem _ hb))⟩, ⟨sub, fun c hc => (h.mem c (List.mem_cons_of_mem _ hc)).up up fun _ _ _ e => e, fun b hb => ?_, n4⟩, ?_⟩
  · rw [ha] at hb
    rw [upd_ne (fun e => hb (by rw [e]; exact List.mem_cons_self)), upd_ne (fun e => hb (by rw [e]; exact List.mem_cons_of_mem _ List.mem_cons_self))]; exact g
  · rw [upd_ne (fun e => n1 (by rw [← e]; exact List.mem_cons_of_mem _ hb)), upd_ne (fun e => n3 (by rw [← e]; exact hb))]
    exact h.out b (by rw [ha]; exact List.mem_cons_of_mem _ (List.mem_cons_of_mem _ hb))
  · simp only [Den]
    refine ⟨x, dx, vs.map (·.2), rfl, ?_, by rw [upd_ne ne]; exact upd_same, h4.up up⟩
    rw [upd_same, ← h3, zip_map]
theorem freezeL {K : PySem.W.Frag} {G H : Hp} {x : Addr} {ds : List Dat} (h : Hst K G ((x, .lst ds) :: M) H) : ∃ G', Stp G ((x, .lst ds) :: M) H G' M H ∧ Hst K G' M H ∧ Den K G' (.lst ds) (.ref x) := by
  obtain ⟨vs, h1, h4⟩ := h.mem _ List.mem_cons_self
  have ha : adr ((x, MC.lst ds) :: M) = x :: adr M := rfl
  have gx : G x = none := h.out x (by rw [ha]; exact List.mem_cons_self)
  have nd := h.nd
  rw [ha] at nd
  obtain ⟨n1, n4⟩ := List.nodup_cons.mp nd
  have up : Same G (upd G x (.lst vs)) := fun b o e => by rw [upd_ne (ne_of_none e gx)]; exact e
  have sub : Same (upd G x (.lst vs)) H := fun b o e => by
    by_cases c : b = x
    · subst c; rw [upd_same] at e; cases e; exact h1
    · rw [upd_ne c] at e; exact h.sub b o e
  refine ⟨_, ⟨up, fun _ _ _ e => e, fun b _ hb g => ?_, fun b hb => .inl (by rw [ha]; exact List.mem_cons_of_mem _ hb)⟩, ⟨sub, fun c hc => (h.mem c (List.mem_cons_of_mem _ hc)).up up fun _ _ _ e => e, fun b hb => ?_, n4⟩, den_lst upd_same (h4.up up)⟩
  · rw [ha] at hb
    rw [upd_ne (fun e => hb (by rw [e]; exact List.mem_cons_self))]; exact g
  · rw [upd_ne (fun e => n1 (by rw [← e]; exact hb))]
    exact h.out b (by rw [ha]; exact List.mem_cons_of_mem _ hb)
/-- what becomes of a new instance at x: it stays a cell, or it is frozen -/
def MadeP (P : PK') (x : Addr) (M2 : Mem) : Prop := P (.raw (.ref x)) M2 ∨ ∃ C dx fs M3, M2.Perm ((x, .ins C dx fs) :: M3) ∧ P (.obj C (fs.map (·.1)) (fs.map (·.2))) M3
theorem madeP_ce {K : PySem.W.Frag} {G H : Hp} {Q : VK} {x : Addr} (hP : CE' K G M H P Q) {M2 : Mem} {G2 H2 : Hp} (hm : MadeP P x M2) (s : Stp G M H G2 M2 H2) (h2 : Hst K G2 M2 H2) : Q (.ref x) H2 := by
  rcases hm with hm | ⟨C, dx, fs, M3, pm, hm⟩
  · exact hP _ _ _ _ _ hm s h2 den_raw
  · obtain ⟨G', s3, h3, d3⟩ := freezeI (h2.perm pm)
    exact hP _ _ _ _ _ hm ((s.perm (List.Perm.refl _) pm).trans s3) h3 d3
theorem run_makeD {pins : List (Addr × Obj)} {σ : L2.St} {H : Hp} {s : Shared} {Q : VK} {us : List Value} {vs : List V} {W : WX} (Mk' : Mk X.K C f) (F : FnD X.prog X.w X.K X.mg X.base k f fd ps S) (hr : Room (k + 1) X.A) (hb : Binds X.K fd ps dsv) (hd : Vals dvs dsv)
    (tk : Takes X W) (I : Inv X pins σ H s) (r : Vals vs us)
    (h : ∀ x dx, H x = none → H dx = none → dx ≠ x → toSp X.K S (.ref x :: (vs ++ dvs)) (upd (upd H dx (.own x)) x (.ins C dx [])) (fun v H2 => v = .non ∧ Q (.ref x) H2) (fun c d H2 => W c d σ H2)) :
    wpAny (model X.prog X.w) X.A (call (.ref C) us) (EP X pins σ Q) X.xe s := by
  have hq := h (s.heap.objs.size + 1) s.heap.objs.size (I.hok.fresh (Nat.le_succ _)) (I.hok.fresh (Nat.le_refl _)) (Nat.ne_of_lt (Nat.lt_succ_self _))
  have I2 := Inv.made (C := C) I
  have r2 : Vals (V.ref (s.heap.objs.size + 1) :: (vs ++ dvs)) (Value.ref (s.heap.objs.size + 1) :: (us ++ dsv)) := .cons rfl (r.append hd)
  have hl : (Value.ref (s.heap.objs.size + 1) :: us ++ dsv).length = ps.length := by
    have e := r2.length
    rw [F.len _ _ _ _ hq] at e
    exact e.symm
  refine wpAny_call (make_map (f := f) I.kIn Mk'.makes Mk'.init (beq_iff_eq.mp Mk'.fn) (codeAny_mono (F.run _ X.stack _ _ ⟨Value.ref (s.heap.objs.size + 1) :: us, []⟩ (Value.ref (s.heap.objs.size + 1) :: (us ++ dsv)) _ _ _ (hr.make C us [])
    (I2.env0.make C us []) (hb _ (Value.ref (s.heap.objs.size + 1) :: us) I2.kIn hl) r2 hq) fun r s' hq' => ?_))
  cases r with
  | error e => exact tk e s' (XE.of_call I2 (fun cls d H' h => h) hq')
  | ok fl =>
    cases fl with
    | ret u =>
      obtain ⟨v, H', I3, rv, ev, q3⟩ := I2.after hq'
      subst ev
      exact ⟨rv, ⟨V.ref (s.heap.objs.size + 1), H', I3, rfl, q3⟩⟩
    | next => exact False.elim hq'
    | brk => exact False.elim hq'
    | cont => exact False.elim hq'
theorem make_sp {K : PySem.W.Frag} {G H : Hp} {Q : VK} {T : XK} {ds : List Dat} {vs : List V}
    (h : ∀ x dx, x ∉ adr M → dx ∉ adr M → dx ≠ x → AP S (.raw (.ref x) :: ds) ((x, .ins C dx []) :: M) (fun d M2 => d = .non ∧ MadeP P x M2) E) (dv : DenL K G ds vs) (hH : Hst K G M H) (hP : CE' K G M H P Q) (hX : CX' K G M H E T) :
    ∀ x dx, H x = none → H dx = none → dx ≠ x → toSp K S (.ref x :: vs) (upd (upd H dx (.own x)) x (.ins C dx [])) (fun v H2 => v = .non ∧ Q (.ref x) H2) T := by
  intro x dx hx hdx ne
  obtain ⟨h1, s1⟩ := hst_new (C := C) hH hx hdx ne
  have n1 : x ∉ adr M := fun z => hH.there x z hx
  have n2 : dx ∉ adr M := fun z => hH.there dx z hdx
  refine ap_toSp (h x dx n1 n2 ne) (.cons den_raw dv) h1 (fun d M2 v G2 H2 ⟨e, hm⟩ s2 h2 dd => ?_) (hX.step s1)
  subst e
  exact ⟨dd.non_inv, madeP_ce hP hm (s1.trans s2) h2⟩
/-- C(e, ..) -/
theorem ex_make (Mk' : Mk X.K C f) (F : FnD X.prog X.w X.K X.mg X.base k f fd ps S) (hr : Room (k + 1) X.A) (hm : X.mg x = some (.ref C)) (hb : Binds X.K fd ps dsv) (hd : Vals dvs dsv) (hdf : ∀ G, DenL X.K G df dvs)
    (h : EA X T (e :: es) τ M (fun ds M1 => ∀ x dx, x ∉ adr M1 → dx ∉ adr M1 → dx ≠ x → AP S (.raw (.ref x) :: (ds ++ df)) ((x, .ins C dx []) :: M1) (fun d M2 => d = .non ∧ MadeP P x M2) E) E)
    (hg : Gl X x := by rfl) (hdb : (x == ("__debug__" : Str)) = false := by decide) (he : starEach (e :: es) X.env = (false, eval e X.env) :: starEach es X.env := by rfl) (hpl : (backTo pos (starEach es X.env)).any (·.1) = false := by rfl) :
    EX X T (.Call (.Name x p) (e :: es) [] pos) τ M P E := by
  refine .mk ?_; intro W tk σ G H hE hH Q hP hX pins s k0 I
  refine wpAny_Call_Name_kw (ld_glob I hg hm ?_ hdb)
  have hA := h.run W tk σ G H hE hH (fun vs H1 => ∀ x dx, H1 x = none → H1 dx = none → dx ≠ x → toSp X.K S (.ref x :: (vs ++ dvs)) (upd (upd H1 dx (.own x)) x (.ins C dx [])) (fun v H2 => v = .non ∧ Q (.ref x) H2) (fun c d H2 => W c d σ H2))
    (fun ds M1 vs G1 H1 ha s1 h1 dv => make_sp ha (dv.append (hdf G1)) h1 (hP.step s1) (hX.step s1)) hX
  refine PySem.W.callWith_K (h₀ := X.base) I.ok.mod.kin Mk'.kp (thn (hA pos pins s k0 I) fun us s1 ⟨vs, H1, I1, r, q⟩ => ⟨I1.kIn, ?_⟩) he hpl
  exact run_makeD Mk' F hr hb hd tk I1 r q
theorem ex_make0 (Mk' : Mk X.K C f) (F : FnD X.prog X.w X.K X.mg X.base k f fd ps S) (hr : Room (k + 1) X.A) (hm : X.mg x = some (.ref C)) (hb : Binds X.K fd ps dsv) (hd : Vals dvs dsv) (hdf : ∀ G, DenL X.K G df dvs)
    (h : ∀ x dx, x ∉ adr M → dx ∉ adr M → dx ≠ x → AP S (.raw (.ref x) :: df) ((x, .ins C dx []) :: M) (fun d M2 => d = .non ∧ MadeP P x M2) E) (hg : Gl X x := by rfl) (hdb : (x == ("__debug__" : Str)) = false := by decide) :
    EX X T (.Call (.Name x p) [] [] pos) τ M P E := by
  refine .mk ?_; intro W tk σ G H hE hH Q hP hX pins s k0 I
  refine wpAny_Call_Name_kw (ld_glob I hg hm ?_ hdb)
  exact PySem.W.callWith_K0 I.kIn Mk'.kp (run_makeD (us := []) (vs := []) Mk' F hr hb hd tk I .nil (make_sp h (hdf G) hH hP hX))
end
end Kh

set_option Elab.async false
set_option linter.all false
set_option maxRecDepth 100000
set_option maxHeartbeats 1000000
namespace Kh
open PySem PySem.Spec L2

/-! ### what is walked -/
/-- J gives the data ds, one after the other, as long as the cells are as Ok says; the unchanging part G1 stands -/
def WalkD (K : PySem.W.Frag) (J : It) (ds : List Dat) (G1 : Hp) (Ok : Mem → Prop) : Prop :=
  ∀ G2 M2 H2, Same G1 G2 → Hst K G2 M2 H2 → Ok M2 → (∀ i, i < ds.length → J.go i H2) ∧ J.stop ds.length H2 ∧
    ∀ i x H', i < ds.length → J.yld i H2 x H' → ∃ G', Stp G2 M2 H2 G' M2 H' ∧ Hst K G' M2 H' ∧ ∀ d, ds[i]? = some d → Den K G' d x
/-- the iterable gives ds; behind its evaluation the cells are M1 -/
structure EI (X : Cx) (tg iter : Expr) (τ : TEnv) (M : Mem) (P : List Dat → Mem → (Mem → Prop) → Prop) (E : XKx) : Prop where
  run : ∀ W, Takes X W → ∀ σ G H, DenE X.K τ G σ → Hst X.K G M H → ∀ R : It → Hp → Prop,
    (∀ J ds M1 G1 H1 Ok, P ds M1 Ok → Stp G M H G1 M1 H1 → Hst X.K G1 M1 H1 → WalkD X.K J ds G1 Ok → R J H1) → CX' X.K G M H E (fun c d H2 => W c d σ H2) → tWI X false tg iter σ H R
abbrev anyM : Mem → Prop := fun _ => True
section
variable {X : Cx} {T : Bool} {tg iter e a b c : Expr} {τ : TEnv} {M : Mem} {E : XKx} {pos p : Pos} {PI' : List Dat → Mem → (Mem → Prop) → Prop}
theorem walkD_list {K : PySem.W.Frag} {G1 : Hp} {a : Addr} {vs : List V} {ds : List Dat} (hq : SqL K G1 a vs) (hd : DenL K G1 ds vs) : WalkD K (Itl K a) ds G1 anyM := fun G2 M2 H2 s h _ => by
  have hq2 : SqL K H2 a vs := h.sub.seq (s.seq hq)
  refine ⟨fun i hi => ?_, ⟨vs, hq2, by rw [hd.length]; exact Nat.le_refl _⟩, fun i x H' hi y => ?_⟩
  · obtain ⟨v, h1, _⟩ := hd.get (List.getElem?_eq_getElem hi)
    exact ⟨vs, v, hq2, h1⟩
  · obtain ⟨rfl, y2⟩ := y
    refine ⟨G2, Stp.refl, h, fun d hd' => ?_⟩
    obtain ⟨v, h1, h2⟩ := hd.get hd'
    have := y2 vs hq2
    rw [h1] at this; cases this
    exact h2.up s
theorem walkD_tup {K : PySem.W.Frag} {G1 : Hp} {a : Addr} {vs : List V} {ds : List Dat} (hq : SqT K G1 a vs) (hd : DenL K G1 ds vs) : WalkD K (Itt K a) ds G1 anyM := fun G2 M2 H2 s h _ => by
  have hq2 : SqT K H2 a vs := Same.tpl h.sub (Same.tpl s hq)
  refine ⟨fun i hi => ?_, ⟨vs, hq2, by rw [hd.length]; exact Nat.le_refl _⟩, fun i x H' hi y => ?_⟩
  · obtain ⟨v, h1, _⟩ := hd.get (List.getElem?_eq_getElem hi)
    exact ⟨vs, v, hq2, h1⟩
  · obtain ⟨rfl, y2⟩ := y
    refine ⟨G2, Stp.refl, h, fun d hd' => ?_⟩
    obtain ⟨v, h1, h2⟩ := hd.get hd'
    have := y2 vs hq2
    rw [h1] at this; cases this
    exact h2.up s
/-- a list that is a cell, and stays as it is -/
theorem walkD_cell {K : PySem.W.Frag} {G1 : Hp} {a : Addr} {ds : List Dat} : WalkD K (Itl K a) ds G1 (fun M => (a, .lst ds) ∈ M) := fun G2 M2 H2 s h hm => by
  obtain ⟨vs, h1, hd⟩ := h.mem _ hm
  have hq2 : SqL K H2 a vs := SqL.of h1
  refine ⟨fun i hi => ?_, ⟨vs, hq2, by rw [hd.length]; exact Nat.le_refl _⟩, fun i x H' hi y => ?_⟩
  · obtain ⟨v, h1, _⟩ := hd.get (List.getElem?_eq_getElem hi)
    exact ⟨vs, v, hq2, h1⟩
  · obtain ⟨rfl, y2⟩ := y
    refine ⟨G2, Stp.refl, h, fun d hd' => ?_⟩
    obtain ⟨v, h1, h2⟩ := hd.get hd'
    have := y2 vs hq2
    rw [h1] at this; cases this
    exact h2
theorem ei_list (h : EX X false e τ M (fun d M1 => ∃ ds, d = .lst ds ∧ PI' ds M1 anyM) E) : EI X tg e τ M PI' E := .mk fun W tk σ G H hE hH R hR hX => by
  refine tWI_of (pi_list pe_W) ?_
  refine h.run W tk σ G H hE hH _ ?_ hX
  intro d M1 v G1 H1 ⟨ds, ed, hp⟩ s1 h1 dv
  subst ed
  obtain ⟨a, vs, rfl, hq, hd⟩ := dv.lst_inv
  exact ⟨a, rfl, ⟨vs, h1.sub.seq (SqL.of hq)⟩, hR _ _ _ _ _ _ hp s1 h1 (walkD_list (SqL.of hq) hd)⟩
theorem ei_cell (h : EX X false e τ M (fun d M1 => ∃ a ds, d = .raw (.ref a) ∧ (a, MC.lst ds) ∈ M1 ∧ PI' ds M1 (fun M => (a, .lst ds) ∈ M)) E) : EI X tg e τ M PI' E := .mk fun W tk σ G H hE hH R hR hX => by
  refine tWI_of (pi_list pe_W) ?_
  refine h.run W tk σ G H hE hH _ ?_ hX
  intro d M1 v G1 H1 ⟨a, ds, ed, hm, hp⟩ s1 h1 dv
  subst ed
  obtain ⟨vs, g1, g2⟩ := h1.mem _ hm
  exact ⟨a, dv.raw_inv, ⟨vs, SqL.of g1⟩, hR _ _ _ _ _ _ hp s1 h1 walkD_cell⟩
theorem ei_tup (h : EX X false e τ M (fun d M1 => ∃ ds, d = .tup ds ∧ PI' ds M1 anyM) E) : EI X tg e τ M PI' E := .mk fun W tk σ G H hE hH R hR hX => by
  refine tWI_of (pi_tup pe_W) ?_
  refine h.run W tk σ G H hE hH _ ?_ hX
  intro d M1 v G1 H1 ⟨ds, ed, hp⟩ s1 h1 dv
  subst ed
  obtain ⟨a, vs, rfl, hq, hd⟩ := dv.tup_inv
  exact ⟨a, rfl, ⟨vs, Same.tpl h1.sub (SqT.of hq)⟩, hR _ _ _ _ _ _ hp s1 h1 (walkD_tup (SqT.of hq) hd)⟩
def rngD (lo : Int) (n : Nat) : List Dat := (List.range n).map fun (i : Nat) => .int (lo + (i : Int))
theorem rngD_length {lo : Int} {n : Nat} : (rngD lo n).length = n := by simp [rngD]
theorem rngD_get {lo : Int} {n i : Nat} {d : Dat} (h : (rngD lo n)[i]? = some d) : d = .int (lo + (i : Int)) ∧ i < n := by
  have hi : i < n := by have := (List.getElem?_eq_some_iff.mp h).1; rwa [rngD_length] at this
  unfold rngD at h
  rw [List.getElem?_map, List.getElem?_range hi] at h
  cases h
  exact ⟨rfl, hi⟩
theorem walkD_range {K : PySem.W.Frag} {G1 : Hp} {lo : Int} {n : Nat} : WalkD K (Itr lo n) (rngD lo n) G1 anyM := fun G2 M2 H2 s h _ => by
  rw [rngD_length]
  refine ⟨fun i hi => hi, Nat.le_refl _, fun i x H' hi y => ?_⟩
  obtain ⟨rfl, rfl⟩ := y
  refine ⟨G2, Stp.refl, h, fun d hd => ?_⟩
  rw [(rngD_get hd).1]; exact den_int
/-- range(n) -/
theorem ei_range1 (hm : X.mg "range" = none) (h : EX X false a τ M (fun d M1 => ∃ j, d = .int j ∧ (-(2 ^ 62) ≤ j ∧ j < 2 ^ 62) ∧ PI' (rngD 0 j.toNat) M1 anyM) E) (hg : Gl X "range" := by rfl) (hs : starEach [a] X.env = [(false, eval a X.env)] := by rfl) : EI X tg (.Call (.Name "range" p) [a] [] pos) τ M PI' E := .mk fun W tk σ G H hE hH R hR hX => by
  refine tWI_of (pi_range1 hg hm (pa_cons pe_W pa_nil hs) hs) ?_
  refine h.run W tk σ G H hE hH _ ?_ hX
  intro d M1 v G1 H1 ⟨j, ed, hb, hp⟩ s1 h1 dv
  subst ed
  exact ⟨j, by rw [dv.int_inv], hb.1, hb.2, hR _ _ _ _ _ _ hp s1 h1 walkD_range⟩
theorem ei_range2 (hm : X.mg "range" = none) (h : EX X false a τ M (fun d M1 => EX X false b τ M1 (fun d2 M2 => ∃ i j, d = .int i ∧ d2 = .int j ∧ (-(2 ^ 62) ≤ i ∧ i < 2 ^ 62 ∧ -(2 ^ 62) ≤ j ∧ j < 2 ^ 62) ∧ PI' (rngD i (j - i).toNat) M2 anyM) E) E) (hg : Gl X "range" := by rfl)
    (hs : starEach [a, b] X.env = [(false, eval a X.env), (false, eval b X.env)] := by rfl) (hs2 : starEach [b] X.env = [(false, eval b X.env)] := by rfl) : EI X tg (.Call (.Name "range" p) [a, b] [] pos) τ M PI' E := .mk fun W tk σ G H hE hH R hR hX => by
  refine tWI_of (pi_range2 hg hm (pa_cons pe_W (pa_cons pe_W pa_nil hs2) (by rw [hs, hs2])) hs hs2) ?_
  refine h.run W tk σ G H hE hH _ ?_ hX
  intro d M1 v G1 H1 hb s1 h1 dv
  refine hb.run W tk σ G1 H1 (hE.up s1.gg) h1 _ ?_ (hX.step s1)
  intro d2 M2 v2 G2 H2 ⟨i, j, ed, ed2, hrg, hp⟩ s2 h2 dv2
  subst ed; subst ed2
  exact ⟨i, j, by rw [dv.int_inv, dv2.int_inv], hrg, hR _ _ _ _ _ _ hp (s1.trans s2) h2 walkD_range⟩
/-- range(a, b, c), c above 0 -/
def rngC (lo c : Int) (n : Nat) : List Dat := (List.range n).map fun (i : Nat) => .int (lo + (i : Int) * c)
theorem rngC_length {lo c : Int} {n : Nat} : (rngC lo c n).length = n := by simp [rngC]
theorem rngC_get {lo c : Int} {n i : Nat} {d : Dat} (h : (rngC lo c n)[i]? = some d) : d = .int (lo + (i : Int) * c) ∧ i < n := by
  have hi : i < n := by have := (List.getElem?_eq_some_iff.mp h).1; rwa [rngC_length] at this
  unfold rngC at h
  rw [List.getElem?_map, List.getElem?_range hi] at h
  cases h
  exact ⟨rfl, hi⟩
theorem walkD_rangeC {K : PySem.W.Frag} {G1 : Hp} {lo c : Int} {n : Nat} : WalkD K (Itc lo c n) (rngC lo c n) G1 anyM := fun G2 M2 H2 s h _ => by
  rw [rngC_length]
  refine ⟨fun i hi => hi, Nat.le_refl _, fun i x H' hi y => ?_⟩
  obtain ⟨rfl, rfl⟩ := y
  refine ⟨G2, Stp.refl, h, fun d hd => ?_⟩
  rw [(rngC_get hd).1]; exact den_int
theorem ei_range3 (hm : X.mg "range" = none) (h : EX X false a τ M (fun d M1 => EX X false b τ M1 (fun d2 M2 => EX X false c τ M2 (fun d3 M3 => ∃ i j c' n, d = .int i ∧ d2 = .int j ∧ d3 = .int c' ∧ RgC i j c' n ∧ PI' (rngC i c' n) M3 anyM) E) E) E) (hg : Gl X "range" := by rfl)
    (hs : starEach [a, b, c] X.env = (false, eval a X.env) :: starEach [b, c] X.env := by rfl) (hs2 : starEach [b, c] X.env = (false, eval b X.env) :: starEach [c] X.env := by rfl) (hs3 : starEach [c] X.env = (false, eval c X.env) :: starEach [] X.env := by rfl) (hpl : (backTo pos (starEach [b, c] X.env)).any (·.1) = false := by rfl) :
    EI X tg (.Call (.Name "range" p) [a, b, c] [] pos) τ M PI' E := .mk fun W tk σ G H hE hH R hR hX => by
  refine tWI_of (pi_range3 hg hm (pa_cons pe_W (pa_cons pe_W (pa_cons pe_W pa_nil hs3) hs2) hs) hs hpl) ?_
  refine h.run W tk σ G H hE hH _ ?_ hX
  intro d M1 v G1 H1 hb s1 h1 dv
  refine hb.run W tk σ G1 H1 (hE.up s1.gg) h1 _ ?_ (hX.step s1)
  intro d2 M2 v2 G2 H2 hb2 s2 h2 dv2
  refine hb2.run W tk σ G2 H2 ((hE.up s1.gg).up s2.gg) h2 _ ?_ ((hX.step s1).step s2)
  intro d3 M3 v3 G3 H3 ⟨i, j, c', n, ed, ed2, ed3, hrg, hp⟩ s3 h3 dv3
  subst ed; subst ed2; subst ed3
  exact ⟨i, j, c', n, by rw [dv.int_inv, dv2.int_inv, dv3.int_inv], hrg, hR _ _ _ _ _ _ hp ((s1.trans s2).trans s3) h3 walkD_rangeC⟩
/-- a text, sign by sign -/
def sgnD (z : Str) : List Dat := z.cps.toList.map fun c => .str ⟨#[c]⟩
theorem walkD_str {K : PySem.W.Frag} {G1 : Hp} {z : Str} : WalkD K (Its z) (sgnD z) G1 anyM := fun G2 M2 H2 s h _ => by
  have hl : (sgnD z).length = z.cps.size := by simp [sgnD]
  rw [hl]
  refine ⟨fun i hi => hi, Nat.le_refl _, fun i x H' hi y => ?_⟩
  obtain ⟨rfl, c, h1, rfl⟩ := y
  refine ⟨G2, Stp.refl, h, fun d hd => ?_⟩
  unfold sgnD at hd
  rw [List.getElem?_map, Array.getElem?_toList, h1] at hd
  cases hd
  exact den_str
theorem ei_str (h : EX X false e τ M (fun d M1 => ∃ z, d = .str z ∧ PI' (sgnD z) M1 anyM) E) : EI X tg e τ M PI' E := .mk fun W tk σ G H hE hH R hR hX => by
  refine tWI_of (pi_str pe_W) ?_
  refine h.run W tk σ G H hE hH _ ?_ hX
  intro d M1 v G1 H1 ⟨z, ed, hp⟩ s1 h1 dv
  subst ed
  exact ⟨z, dv.str_inv, hR _ _ _ _ _ _ hp s1 h1 walkD_str⟩
/-- enumerate(list) -/
def enuD (ds : List Dat) : List Dat := ds.zipIdx.map fun q => .tup [.int (q.2 : Int), q.1]
theorem enuD_length {ds : List Dat} : (enuD ds).length = ds.length := by simp [enuD]
theorem enuD_get {ds : List Dat} {i : Nat} {d : Dat} (h : (enuD ds)[i]? = some d) : ∃ x, ds[i]? = some x ∧ d = .tup [.int (i : Int), x] := by
  unfold enuD at h
  rw [List.getElem?_map, List.getElem?_zipIdx] at h
  cases e : ds[i]? with
  | none => rw [e] at h; cases h
  | some x => rw [e] at h; simp at h; exact ⟨x, rfl, h.symm⟩
theorem walkD_enum {K : PySem.W.Frag} {G1 : Hp} {a : Addr} {vs : List V} {ds : List Dat} (hq : SqL K G1 a vs) (hd : DenL K G1 ds vs) : WalkD K (Ite K a) (enuD ds) G1 anyM := fun G2 M2 H2 s h _ => by
  have hq2 : SqL K H2 a vs := h.sub.seq (s.seq hq)
  rw [enuD_length]
  refine ⟨fun i hi => ?_, ⟨vs, hq2, by rw [hd.length]; exact Nat.le_refl _⟩, fun i x H' hi y => ?_⟩
  · obtain ⟨v, h1, _⟩ := hd.get (List.getElem?_eq_getElem hi)
    exact ⟨vs, v, hq2, h1⟩
  · obtain ⟨T, x', rfl, hT, rfl, y2⟩ := y
    obtain ⟨s3, h3⟩ := Stp.new (o := .tup [.int (i : Nat), x']) h hT
    refine ⟨_, s3, h3, fun d hd' => ?_⟩
    obtain ⟨z, hz, rfl⟩ := enuD_get hd'
    obtain ⟨v, h1, h2⟩ := hd.get hz
    have := y2 vs hq2
    rw [h1] at this; cases this
    exact den_tup upd_same (.cons den_int (.cons ((h2.up s).up s3.gg) .nil))
theorem ei_enum {elts : List Expr} {kk : Nat} {tpos : Pos} (hm : X.mg "enumerate" = none) (h : EX X false e τ M (fun d M1 => ∃ ds, d = .lst ds ∧ PI' (enuD ds) M1 anyM) E) (hg : Gl X "enumerate" := by rfl) (hs : starEach [e] X.env = [(false, eval e X.env)] := by rfl) : EI X (.Tuple elts kk tpos) (.Call (.Name "enumerate" p) [e] [] pos) τ M PI' E := .mk fun W tk σ G H hE hH R hR hX => by
  refine tWI_of (pi_enum hg hm (pa_cons pe_W pa_nil hs) hs) ?_
  refine h.run W tk σ G H hE hH _ ?_ hX
  intro d M1 v G1 H1 ⟨ds, ed, hp⟩ s1 h1 dv
  subst ed
  obtain ⟨a, vs, rfl, hq, hd⟩ := dv.lst_inv
  exact ⟨a, vs, rfl, h1.sub.seq (SqL.of hq), hR _ _ _ _ _ _ hp s1 h1 (walkD_enum (SqL.of hq) hd)⟩

/-! ### for -/
theorem s_for {body : List Stmt} {σ : L2.St} {H : Hp} {D : Ends} (hp : PassesOwn (model X.prog X.w) X.A X.env X.xe) (hc : X.calm = true) (hs : ∀ x, foldedSetIterable iter X.env x = pure x)
    (q : tWI X false tg iter σ H fun J H1 => ∃ Wm : Nat → Nat → L2.St → Hp → Prop, (∃ m, Wm 0 m σ H1) ∧ ∀ i m σ H, Wm i m σ H →
      (J.stop i H ∧ D.nx σ H) ∨ (J.go i H ∧ ∃ N : L2.St → Hp → Prop, (∀ σ' H', N σ' H' → ∃ m', m' < m ∧ Wm (i + 1) m' σ' H') ∧ ∀ x H', J.yld i H x H' → tWG X T tg x σ H' fun σ2 H2 => tWSs X T body { D with nx := N, ct := N, bk := D.nx } σ2 H2)) :
    tWS X T (.For tg iter body [] pos) D σ H := fun pins s k0 I => by
  refine wpAny_For (thnT k0 (q pins s tk_f I) fun v s1 k1 h1 => thnT k1 h1 fun itv s2 k2 h2 => ?_) hs
  obtain ⟨it, fp, tn, J, H2, e, I2, Tu, st2, f2, Wm, ⟨m0, w0⟩, turn⟩ := h2
  subst e
  have stat : ∀ {H' : Hp}, (∀ b ∈ fp, H' b = none) → ∀ b ∈ fp, FpOk X pins H' b := fun hn b hb => ⟨hn b hb, (f2 b hb).2⟩
  refine codeAny_forLoop_any (fun n s' => Tk T s' ∧ ∃ i σ' H', Inv X pins σ' H' s' ∧ tn i s'.heap ∧ (∀ b ∈ fp, H' b = none) ∧ Wm i n σ' H') ?_ m0 ⟨k2, 0, σ, H2, I2, st2, fun b hb => (f2 b hb).1, w0⟩
  rintro n s3 ⟨k3, i, σ3, H3, I3, st3, fr3, w3⟩
  rcases turn i n σ3 H3 w3 with ⟨stop, qn⟩ | ⟨go, N, hN, step⟩
  · refine wpAny_passesOwn hp (thn (Tu.done X rfl rfl rfl hc i pins s3 σ3 H3 X.xe I3 (stat fr3) st3 stop) fun r s4 ⟨hr, I4⟩ => ?_)
    subst hr
    exact wpAny_execs_nil ⟨σ3, H3, I4, qn⟩
  · refine wpAny_passesOwn hp (thnT k3 (Tu.item X rfl rfl rfl hc i pins s3 σ3 H3 X.xe I3 (stat fr3) st3 go) fun r s4 k4 ⟨u, hr, h4⟩ => ?_)
    subst hr
    refine wpAny_passesOwn hp (thnT k4 h4 fun _ s5 k5 ⟨x, H5, I5, r5, y5, st5, fr5⟩ => ?_)
    have J5 := I5.pinned (stat fr5) (Tu.obj _ _ st5)
    refine wpAny_passesOwn hp (thnT k5 (step x H5 y5 _ s5 u k5 J5 r5) fun _ s6 k6 ⟨σ6, H6, I6, q6⟩ => ?_)
    refine wpAny_passesOwn hp (thnT k6 (q6 _ s6 k6 I6) fun f s7 k7 q7 => ?_)
    have pinA : ∀ {σ7 : L2.St} {H7 : Hp}, Inv X (pins ++ pinsAt fp s5.heap) σ7 H7 s7 → ∀ b ∈ fp, ∀ o, s5.heap.get? b = some o → s7.heap.get? b = some o ∧ H7 b = none := fun {σ7 H7} I7 b hb o e =>
      have z := I7.pin (b, o) (List.mem_append_right _ (List.mem_append_right _ (mem_pinsAt hb e)))
      ⟨z.1, z.2.1⟩
    have again : ∀ {σ7 : L2.St} {H7 : Hp}, Inv X (pins ++ pinsAt fp s5.heap) σ7 H7 s7 → N σ7 H7 → ∃ m, m < n ∧ (Tk T s7 ∧ ∃ i σ' H', Inv X pins σ' H' s7 ∧ tn i s7.heap ∧ (∀ b ∈ fp, H' b = none) ∧ Wm i m σ' H') := fun {σ7 H7} I7 n7 => by
      obtain ⟨m', hm, w7⟩ := hN σ7 H7 n7
      refine ⟨m', hm, k7, i + 1, σ7, H7, I7.unpinned, Tu.keep _ _ _ st5 fun b hb o e => (pinA I7 b hb o e).1, fun b hb => ?_, w7⟩
      obtain ⟨o, e, d⟩ := Tu.obj _ _ st5 b hb
      exact (pinA I7 b hb o e).2
    cases f with
    | next => obtain ⟨σ7, H7, I7, n7⟩ := q7; exact again I7 n7
    | cont => obtain ⟨σ7, H7, I7, n7⟩ := q7; exact again I7 n7
    | brk => obtain ⟨σ7, H7, I7, q7⟩ := q7; exact ⟨σ7, H7, I7.unpinned, q7⟩
    | ret u' => obtain ⟨v7, σ7, H7, I7, r7, q7⟩ := q7; exact ⟨v7, σ7, H7, I7.unpinned, r7, q7⟩
theorem ws_for {body rest : List Stmt} {R : RK} (hi : EI X tg iter τ M (fun ds M1 Ok => ∃ I : Nat → TEnv → Mem → Prop, I 0 τ M1 ∧ (∀ i τ M, I i τ M → Ok M) ∧
      (∀ i d τ M, ds[i]? = some d → I i τ M → GX X T tg d τ M (fun τ2 M2 => WS X T body τ2 M2 (loopR (I (i + 1)) (fun τ M => WS X T rest τ M R) R)) (fun x M2 => R (.ex x τ) M2)) ∧
      (∀ τ M, I ds.length τ M → WS X T rest τ M R)) (fun x M1 => R (.ex x τ) M1))
    (hp : PassesOwn (model X.prog X.w) X.A X.env X.xe := by first | exact PassesOwn.never | exact passes_of rfl | assumption) (hc : X.calm = true := by rfl) (hs : ∀ x, foldedSetIterable iter X.env x = pure x := by intro _; rfl) : WS X T (.For tg iter body [] pos :: rest) τ M R := .mk fun W tk σ G H hE hH D hR => by
  refine ws_step' (s_for hp hc hs ?_)
  refine hi.run W tk σ G H hE hH _ ?_ (ex_out hR hE)
  intro J ds M1 G1 H1 Ok ⟨I, h0, hOk, hb, hd⟩ s1 h1 w
  let Pv : Nat → L2.St → Hp → Prop := fun i σ' H' => ∃ τ' M' G', I i τ' M' ∧ DenE X.K τ' G' σ' ∧ Hst X.K G' M' H' ∧ Stp G M H G' M' H' ∧ Same G1 G'
  refine ⟨fun i m σ' H' => m = ds.length - i ∧ i ≤ ds.length ∧ Pv i σ' H', ⟨_, rfl, Nat.zero_le _, τ, M1, G1, h0, hE.up s1.gg, h1, s1, Same.refl _⟩, ?_⟩
  rintro i m σ' H' ⟨rfl, hle, τ', M', G', hI, e', h', s', g'⟩
  obtain ⟨w1, w2, w3⟩ := w G' M' H' g' h' (hOk _ _ _ hI)
  by_cases hlt : i < ds.length
  · refine .inr ⟨w1 i hlt, fun σ2 H2 => Pv (i + 1) σ2 H2, fun σ2 H2 q => ⟨ds.length - (i + 1), by omega, rfl, hlt, q⟩, fun x H2 y => ?_⟩
    obtain ⟨G2, s2, h2, dx⟩ := w3 i x H2 hlt y
    have hd' := List.getElem?_eq_getElem hlt
    refine (hb i _ τ' M' hd' hI).run W tk σ' G2 H2 x (e'.up s2.gg) h2 (dx _ hd') _ ?_ ?_
    · intro τ3 M3 G3 H3 σ3 b3 s3 h3 e3
      refine b3.run W tk σ3 G3 H3 e3 h3 _ ?_
      intro o M4 G4 H4 r4 s4 h4
      have st := ((s'.trans s2).trans s3).trans s4
      cases o with
      | nx τ4 => exact fun σ4 e4 => ⟨τ4, M4, G4, r4, e4, h4, st, ((g'.trans s2.gg).trans s3.gg).trans s4.gg⟩
      | ct τ4 => exact fun σ4 e4 => ⟨τ4, M4, G4, r4, e4, h4, st, ((g'.trans s2.gg).trans s3.gg).trans s4.gg⟩
      | bk τ4 => exact fun σ4 e4 => r4.run W tk σ4 G4 H4 e4 h4 D (hR.step st)
      | rt d4 => exact hR _ _ _ _ r4 st h4
      | ex x4 τ4 => exact hR _ _ _ _ r4 st h4
    · exact fun x4 M4 G4 H4 d4 r4 s4 h4 dx4 => hR _ _ _ _ r4 ((s'.trans s2).trans s4) h4 σ' d4 ((e'.up s2.gg).up s4.gg) dx4
  · have e : i = ds.length := by omega
    subst e
    exact .inl ⟨w2, (hd τ' M' hI).run W tk σ' G' H' e' h' D (hR.step s')⟩

/-! ### while -/
theorem s_while {t : Expr} {body : List Stmt} {σ : L2.St} {H : Hp} {D : Ends} (hp : PassesOwn (model X.prog X.w) X.A X.env X.xe)
    (q : ∃ Wm : Nat → L2.St → Hp → Prop, (∃ m, Wm m σ H) ∧ ∀ m σ H, Wm m σ H → tWT X T t σ H fun b H1 => if b = true then ∃ N : L2.St → Hp → Prop, (∀ σ' H', N σ' H' → ∃ m', m' < m ∧ Wm m' σ' H') ∧ tWSs X T body { D with nx := N, ct := N, bk := D.nx } σ H1 else D.nx σ H1) :
    tWS X T (.While t body [] pos) D σ H := fun pins s k0 I => by
  obtain ⟨Wm, ⟨m0, w0⟩, turn⟩ := q
  refine wpAny_While (codeAny_whileLoop (fun n s' => Tk T s' ∧ ∃ σ' H', Inv X pins σ' H' s' ∧ Wm n σ' H') ?_ m0 ⟨k0, σ, H, I, w0⟩)
  rintro n s1 ⟨k1, σ1, H1, I1, w1⟩
  refine wpAny_passesOwn hp (thnT k1 (turn n σ1 H1 w1 pins s1 k1 I1) fun b s2 k2 ⟨H2, I2, q2⟩ => ?_)
  cases b with
  | false => exact wpAny_execs_nil ⟨σ1, H2, I2, q2⟩
  | true =>
    obtain ⟨N, hN, q2⟩ := q2
    rw [if_pos rfl]
    have again : ∀ {s3 : Shared} {σ3 : L2.St} {H3 : Hp}, Tk T s3 → Inv X pins σ3 H3 s3 → N σ3 H3 → ∃ m', m' < n ∧ (Tk T s3 ∧ ∃ σ' H', Inv X pins σ' H' s3 ∧ Wm m' σ' H') := fun {s3 σ3 H3} k3 I3 n3 => by
      obtain ⟨m', hm, w3⟩ := hN σ3 H3 n3
      exact ⟨m', hm, k3, σ3, H3, I3, w3⟩
    refine wpAny_passesOwn hp (thnT k2 (q2 pins s2 k2 I2) fun f s3 k3 q3 => ?_)
    cases f with
    | next => obtain ⟨σ3, H3, I3, n3⟩ := q3; exact again k3 I3 n3
    | cont => obtain ⟨σ3, H3, I3, n3⟩ := q3; exact again k3 I3 n3
    | brk => exact q3
    | ret v => exact q3
theorem ws_while {t : Expr} {body rest : List Stmt} {R : RK} (I : Nat → TEnv → Mem → Prop) (h0 : ∃ m, I m τ M)
    (hb : ∀ m τ M, I m τ M → ET X T t τ M (fun k M1 => (k = true → WS X T body τ M1 (loopR (fun τ2 M2 => ∃ m', m' < m ∧ I m' τ2 M2) (fun τ M => WS X T rest τ M R) R)) ∧ (k = false → WS X T rest τ M1 R)) (fun x M2 => R (.ex x τ) M2))
    (hp : PassesOwn (model X.prog X.w) X.A X.env X.xe := by first | exact PassesOwn.never | exact passes_of rfl | assumption) : WS X T (.While t body [] pos :: rest) τ M R := .mk fun W tk σ G H hE hH D hR => by
  refine ws_step' (s_while hp ?_)
  let Pv : Nat → L2.St → Hp → Prop := fun m σ' H' => ∃ τ' M' G', I m τ' M' ∧ DenE X.K τ' G' σ' ∧ Hst X.K G' M' H' ∧ Stp G M H G' M' H'
  obtain ⟨m0, i0⟩ := h0
  refine ⟨Pv, ⟨m0, τ, M, G, i0, hE, hH, Stp.refl⟩, ?_⟩
  rintro m σ' H' ⟨τ', M', G', hI, e', h', s'⟩
  refine (hb m τ' M' hI).run W tk σ' G' H' e' h' _ ?_ ?_
  · intro k M1 G1 H1 ⟨k1, k2⟩ s1 h1
    cases k with
    | false => exact iteF ((k2 rfl).run W tk σ' G1 H1 (e'.up s1.gg) h1 D (hR.step (s'.trans s1)))
    | true =>
      refine iteT ?_
      have fin : ∀ {G4 H4 : Hp} {M4 : Mem} {τ4 : TEnv}, (∃ m', m' < m ∧ I m' τ4 M4) → Stp G1 M1 H1 G4 M4 H4 → Hst X.K G4 M4 H4 → ∀ σ4, DenE X.K τ4 G4 σ4 → ∃ m', m' < m ∧ Pv m' σ4 H4 := fun {G4 H4 M4 τ4} ⟨m', hm, hi⟩ s4 h4 σ4 e4 => ⟨m', hm, τ4, M4, G4, hi, e4, h4, (s'.trans s1).trans s4⟩
      refine ⟨fun σ4 H4 => ∃ m', m' < m ∧ Pv m' σ4 H4, fun _ _ q => q, ?_⟩
      refine (k1 rfl).run W tk σ' G1 H1 (e'.up s1.gg) h1 _ ?_
      intro o M4 G4 H4 r4 s4 h4
      have st := (s'.trans s1).trans s4
      cases o with
      | nx τ4 => exact fin r4 s4 h4
      | ct τ4 => exact fin r4 s4 h4
      | bk τ4 => exact fun σ4 e4 => r4.run W tk σ4 G4 H4 e4 h4 D (hR.step st)
      | rt d4 => exact hR _ _ _ _ r4 st h4
      | ex x4 τ4 => exact hR _ _ _ _ r4 st h4
  · exact fun x4 M4 G4 H4 d4 r4 s4 h4 dx4 => hR _ _ _ _ r4 (s'.trans s4) h4 σ' d4 (e'.up s4.gg) dx4

/-! ### targets of several names -/
theorem pgs_W {ts : List Expr} : PGs X ts (tWGs X false ts) := ⟨fun pins s σ H vs us Q I r h => h pins s us tk_f I r⟩
structure GXs (X : Cx) (T : Bool) (ts : List Expr) (ds : List Dat) (τ : TEnv) (M : Mem) (P : TEnv → Mem → Prop) : Prop where
  run : ∀ W, Takes X W → ∀ σ G H vs, DenE X.K τ G σ → Hst X.K G M H → DenL X.K G ds vs → ∀ Q, CG' X.K G M H P Q → tWGs X T ts vs σ H Q
theorem gxs_nil {P : TEnv → Mem → Prop} (h : P τ M) : GXs X false [] [] τ M P := .mk fun W tk σ G H vs hE hH dv Q hP pins s us _ I r => by
  rw [dv.nil_inv] at r
  exact pgs_nil.run pins s σ H [] us Q I r ⟨rfl, hP _ _ _ _ _ h Stp.refl hH hE⟩
theorem gxs_cons {t : Expr} {ts : List Expr} {d : Dat} {ds : List Dat} {P : TEnv → Mem → Prop} (h : GX X false t d τ M (fun τ1 M1 => GXs X false ts ds τ1 M1 P) E0')
    (he : (assignEach (t :: ts) X.env).map (·.2) = assign t X.env :: (assignEach ts X.env).map (·.2) := by rfl) : GXs X false (t :: ts) (d :: ds) τ M P := .mk fun W tk σ G H vs hE hH dv Q hP pins s us _ I r => by
  obtain ⟨v, vr, rfl, d1, d2⟩ := dv.cons_inv
  refine (pgs_cons pg_W pgs_W he).run pins s σ H _ us Q I r ⟨v, vr, rfl, ?_⟩
  exact h.run W tk σ G H v hE hH d1 _ (fun τ2 M2 G2 H2 σ2 p2 s2 h2 e2 => p2.run W tk σ2 G2 H2 vr e2 h2 (d2.up s2.gg) Q (hP.step s2)) noX
theorem gx_tup {es : List Expr} {k : Nat} {ds : List Dat} {P : TEnv → Mem → Prop} (h : GXs X false es ds τ M P) (hl : ds.length = (assignEach es X.env).length := by rfl) (hc : X.calm = true := by rfl)
    (hst : (assignEach es X.env).findIdx? (·.1) = none := by rfl) : GX X T (.Tuple es k pos) (.tup ds) τ M P E := .mk fun W tk σ G H v hE hH dv Q hP hX => by
  obtain ⟨a, vs, rfl, hq, hd⟩ := dv.tup_inv
  exact tWG_of (pg_tup hc pgs_W rfl hst) ⟨a, vs, rfl, Same.tpl hH.sub (SqT.of hq), by rw [hd.length, hl], h.run W tk σ G H vs hE hH hd Q hP⟩
end
end Kh

set_option Elab.async false
set_option linter.all false
set_option maxRecDepth 100000
set_option maxHeartbeats 1000000
namespace Kh
open PySem PySem.Spec L2

/-! ### slots that a comprehension wipes -/
theorem wipe_get {σ : L2.St} : ∀ {vs : List Nat} {j : Nat}, (wipe σ vs)[j]? = if j ∈ vs ∧ j < σ.length then some none else σ[j]?
  | [], j => by simp [wipe]
  | v :: vs, j => by
    show ((wipe σ vs).set v none)[j]? = _
    by_cases h : v = j
    · subst h
      by_cases hl : v < σ.length
      · rw [List.getElem?_set_self (by rw [wipe_length]; exact hl), if_pos ⟨List.mem_cons_self, hl⟩]
      · rw [if_neg (fun z => hl z.2), List.getElem?_eq_none (by rw [List.length_set, wipe_length]; omega), List.getElem?_eq_none (by omega)]
    · rw [List.getElem?_set_ne h, wipe_get]
      by_cases hm : j ∈ vs
      · simp [hm]
      · have : ¬ j ∈ v :: vs := fun z => (List.mem_cons.mp z).elim (fun e => h e.symm) hm
        simp [hm, this]
theorem wipe_ext {σ σ' : L2.St} {vs : List Nat} (hl : σ'.length = σ.length) (h : ∀ j, j ∉ vs → σ'[j]? = σ[j]?) : wipe σ' vs = wipe σ vs := by
  apply List.ext_getElem?
  intro j
  rw [wipe_get, wipe_get, hl]
  by_cases c : j ∈ vs ∧ j < σ.length
  · rw [if_pos c, if_pos c]
  · rw [if_neg c, if_neg c]
    by_cases m : j ∈ vs
    · have : ¬ j < σ.length := fun z => c ⟨m, z⟩
      rw [List.getElem?_eq_none (by omega), List.getElem?_eq_none (by omega)]
    · exact h j m
theorem wipe_wipe {σ : L2.St} {vs : List Nat} : wipe (wipe σ vs) vs = wipe σ vs := wipe_ext (wipe_length σ vs) fun j hj => by
  rw [wipe_get, if_neg (fun z => hj z.1)]
/-- the data of the slots that a comprehension wipes -/
def wipeT (τ : TEnv) : List Nat → TEnv
  | [] => τ
  | v :: vs => (wipeT τ vs).set v none
theorem denE_wipe {K : PySem.W.Frag} {G : Hp} {τ : TEnv} {σ : L2.St} (h : DenE K τ G σ) : ∀ (vs : List Nat), DenE K (wipeT τ vs) G (wipe σ vs)
  | [] => h
  | v :: vs => fun j d e => by
    have e' : ((wipeT τ vs).set v none)[j]? = some (some d) := e
    show ∃ u, ((wipe σ vs).set v none)[j]? = some (some u) ∧ _
    by_cases c : v = j
    · subst c
      by_cases hl : v < (wipeT τ vs).length
      · rw [List.getElem?_set_self hl] at e'; cases e'
      · rw [List.getElem?_eq_none (by simpa using hl)] at e'; cases e'
    · rw [List.getElem?_set_ne c] at e' ⊢
      exact denE_wipe h vs j d e'

/-! ### a comprehension's block -/
abbrev Cx.Bk (X : Cx) (scope : Scope) (s : Shared) (H : Hp) (C : Addr) (cl : List (Str × Addr)) (fp : List Addr) : Cx := X.blk s H scope (compEnvC scope cl C X.env) fp
/-- a store at a comprehension's target: slots of vs alone change -/
def GC (X : Cx) (vs : List Nat) (tg : Expr) (d : Dat) (τ : TEnv) (M : Mem) (P : TEnv → Mem → Prop) : Prop :=
  ∀ σ G H v, DenE X.K τ G σ → Hst X.K G M H → Den X.K G d v → ∀ Q, (∀ τ' M' G' H' σ', P τ' M' → Stp G M H G' M' H' → Hst X.K G' M' H' → DenE X.K τ' G' σ' → σ'.length = σ.length → (∀ j, j ∉ vs → σ'[j]? = σ[j]?) → Q σ' H') → tWG X false tg v σ H Q
def GCs (X : Cx) (vs : List Nat) (ts : List Expr) (ds : List Dat) (τ : TEnv) (M : Mem) (P : TEnv → Mem → Prop) : Prop :=
  ∀ σ G H ws, DenE X.K τ G σ → Hst X.K G M H → DenL X.K G ds ws → ∀ Q, (∀ τ' M' G' H' σ', P τ' M' → Stp G M H G' M' H' → Hst X.K G' M' H' → DenE X.K τ' G' σ' → σ'.length = σ.length → (∀ j, j ∉ vs → σ'[j]? = σ[j]?) → Q σ' H') → tWGs X false ts ws σ H Q
section
variable {X : Cx} {T : Bool} {tg iter elt e a b c : Expr} {τ : TEnv} {M : Mem} {E : XKx} {pos p : Pos} {vs : List Nat} {P : PK'}
theorem gc_name {x : Str} {d : Dat} {P : TEnv → Mem → Prop} (h : P (τ.set (ixIn X.N x) (some d)) M) (hv : ixIn X.N x ∈ vs := by first | decide | exact of_decide_eq_true (by kernel_rfl)) (hi : X.N[ixIn X.N x]? = some x := by rfl) (hx : Loc X.env.scope x := by first | exact Or.inl rfl | exact Or.inr rfl) (hN : X.N.Nodup := by first | decide +kernel | exact of_decide_eq_true (by kernel_rfl))
    (hf : X.fn x = true ∨ X.env.scope.names.lookup x = some .local := by first | exact .inl rfl | exact .inr rfl | assumption) : GC X vs (.Name x p) d τ M P := fun σ G H v hE hH dv Q hQ => tWG_len fun hl => by
  refine tWG_of (pg_name hN hi hx hf) ?_
  have hlt : ixIn X.N x < σ.length := by rw [hl]; exact (List.getElem?_eq_some_iff.mp hi).1
  exact hQ _ _ _ _ _ h Stp.refl hH (hE.set hlt dv) (List.length_set) fun j hj => List.getElem?_set_ne (fun z => hj (by rw [← z]; exact hv))
theorem gcs_nil {P : TEnv → Mem → Prop} (h : P τ M) : GCs X vs [] [] τ M P := fun σ G H ws hE hH dv Q hQ pins s us _ I r => by
  rw [dv.nil_inv] at r
  exact pgs_nil.run pins s σ H [] us Q I r ⟨rfl, hQ _ _ _ _ _ h Stp.refl hH hE rfl fun _ _ => rfl⟩
theorem gcs_cons {t : Expr} {ts : List Expr} {d : Dat} {ds : List Dat} {P : TEnv → Mem → Prop} (h : GC X vs t d τ M (fun τ1 M1 => GCs X vs ts ds τ1 M1 P))
    (he : (assignEach (t :: ts) X.env).map (·.2) = assign t X.env :: (assignEach ts X.env).map (·.2) := by rfl) : GCs X vs (t :: ts) (d :: ds) τ M P := fun σ G H ws hE hH dv Q hQ pins s us _ I r => by
  obtain ⟨v, vr, rfl, d1, d2⟩ := dv.cons_inv
  refine (pgs_cons pg_W pgs_W he).run pins s σ H _ us Q I r ⟨v, vr, rfl, ?_⟩
  refine h σ G H v hE hH d1 _ (fun τ2 M2 G2 H2 σ2 p2 s2 h2 e2 l2 k2 => p2 σ2 G2 H2 vr e2 h2 (d2.up s2.gg) Q (fun τ3 M3 G3 H3 σ3 p3 s3 h3 e3 l3 k3 => hQ _ _ _ _ _ p3 (s2.trans s3) h3 e3 (l3.trans l2) fun j hj => (k3 j hj).trans (k2 j hj)))
theorem gc_tup {es : List Expr} {k : Nat} {ds : List Dat} {P : TEnv → Mem → Prop} (h : GCs X vs es ds τ M P) (hl : ds.length = (assignEach es X.env).length := by rfl) (hc : X.calm = true := by rfl)
    (hst : (assignEach es X.env).findIdx? (·.1) = none := by rfl) : GC X vs (.Tuple es k pos) (.tup ds) τ M P := fun σ G H v hE hH dv Q hQ => by
  obtain ⟨a, ws, rfl, hq, hd⟩ := dv.tup_inv
  exact tWG_of (pg_tup hc pgs_W rfl hst) ⟨a, ws, rfl, Same.tpl hH.sub (SqT.of hq), by rw [hd.length, hl], h σ G H ws hE hH hd Q hQ⟩
/-- the tests of a clause -/
def tWIf (X : Cx) (ifs : List Expr) : TT := fun σ H Q => ∀ pins s, Inv X pins σ H s →
    wpAny (model X.prog X.w) X.A (forIn ifs true fun c r => if r = true then do let ok ← isTrue c X.env (eval c X.env); pure (ForInStep.yield ok) else pure (ForInStep.yield r)) (TP X pins σ Q) X.xe s
theorem pts_W {ifs : List Expr} : PTs X ifs (tWIf X ifs) := ⟨fun pins s σ H Q I h => h pins s I⟩
def EFs (X : Cx) (ifs : List Expr) (τ : TEnv) (M : Mem) (P : Bool → Mem → Prop) : Prop :=
  ∀ σ G H, DenE X.K τ G σ → Hst X.K G M H → ∀ Q, CT' X.K G M H P Q → tWIf X ifs σ H Q
theorem ef_nil {P : Bool → Mem → Prop} (h : P true M) : EFs X [] τ M P := fun σ G H hE hH Q hQ pins s I => pts_nil.run pins s σ H Q I (hQ _ _ _ _ h Stp.refl hH)
theorem ef_one {P : Bool → Mem → Prop} (h : ET X false c τ M P E0') : EFs X [c] τ M P := fun σ G H hE hH Q hQ pins s I => (pts_one pt_W).run pins s σ H Q I (h.run _ takes0 σ G H hE hH Q hQ noX)

def gFam (X : Cx) (scope : Scope) (tg : Expr) : TG := fun v σ H Q => ∀ (s : Shared) (H0 : Hp) (C : Addr) (cl : List (Str × Addr)) (fp : List Addr), tWG (Cx.Bk X scope s H0 C cl fp) false tg v σ H Q
def iFam (X : Cx) (scope : Scope) (ifs : List Expr) : TT := fun σ H Q => ∀ (s : Shared) (H0 : Hp) (C : Addr) (cl : List (Str × Addr)) (fp : List Addr), tWIf (Cx.Bk X scope s H0 C cl fp) ifs σ H Q
def eFam (X : Cx) (scope : Scope) (elt : Expr) : TE := fun σ H Q => ∀ (s : Shared) (H0 : Hp) (C : Addr) (cl : List (Str × Addr)) (fp : List Addr), tW (Cx.Bk X scope s H0 C cl fp) false elt σ H Q
theorem pg_fam {scope : Scope} (s : Shared) (H0 : Hp) (C : Addr) (cl : List (Str × Addr)) (fp : List Addr) : PG (Cx.Bk X scope s H0 C cl fp) tg (gFam X scope tg) := ⟨fun pins s' σ H' v u Q I r q => q s H0 C cl fp pins s' u tk_f I r⟩
theorem pt_fam {scope : Scope} {ifs : List Expr} (s : Shared) (H0 : Hp) (C : Addr) (cl : List (Str × Addr)) (fp : List Addr) : PTs (Cx.Bk X scope s H0 C cl fp) ifs (iFam X scope ifs) := ⟨fun pins s' σ H' Q I q => q s H0 C cl fp pins s' I⟩
theorem pe_fam {scope : Scope} (s : Shared) (H0 : Hp) (C : Addr) (cl : List (Str × Addr)) (fp : List Addr) : PE (Cx.Bk X scope s H0 C cl fp) elt (eFam X scope elt) := ⟨fun pins s' σ H' Q I q => q s H0 C cl fp pins s' tk_f I⟩
/-- the reading of a comprehension: the new list is P's -/
theorem lc_read {scope : Scope} (hi : EI X tg iter τ M (fun ds M1 Ok => ds.length ≤ sizeLine ∧ ∃ I : Nat → List Dat → Mem → Prop, I 0 [] M1 ∧ (∀ i acc M, I i acc M → Ok M) ∧
      (∀ i d acc M, ds[i]? = some d → I i acc M → ∀ (s : Shared) (H : Hp) (C : Addr) (cl : List (Str × Addr)) (fp : List Addr), GC (Cx.Bk X scope s H C cl fp) vs tg d (wipeT τ vs) M (fun τ2 M2 => ∀ (s : Shared) (H : Hp) (C : Addr) (cl : List (Str × Addr)) (fp : List Addr),
        EFs (Cx.Bk X scope s H C cl fp) ifs τ2 M2 (fun b M3 => (b = true → ∀ (s : Shared) (H : Hp) (C : Addr) (cl : List (Str × Addr)) (fp : List Addr), EX (Cx.Bk X scope s H C cl fp) false elt τ2 M3 (fun y M4 => I (i + 1) (acc ++ [y]) M4) E0') ∧ (b = false → I (i + 1) acc M3)))) ∧
      (∀ acc M, I ds.length acc M → P (.lst acc) M)) E)
    {W : WX} (tk : Takes X W) {σ : L2.St} {G H : Hp} (hE : DenE X.K τ G σ) (hH : Hst X.K G M H) {Q : VK} (hP : CE' X.K G M H P Q) (hX : CX' X.K G M H E (fun c d H2 => W c d σ H2)) :
    tLc (tWI X false tg iter) (gFam X scope tg) (iFam X scope ifs) (eFam X scope elt) vs σ H Q := by
  refine hi.run W tk σ G H hE hH _ ?_ hX
  intro J ds M1 G1 H1 Ok ⟨hz, I, h0, hOk, hb, hd⟩ s1 h1 w D hD
  have hDH : ∀ b o, b ∉ adr M → H b = some o → b ≠ D := fun b o n e z => by rw [← z, s1.hh b o n e] at hD; cases hD
  -- the new list at D, beside
  have gD : ∀ {G' H' : Hp} {M' : Mem}, Hst X.K G' M' H' → H' D ≠ none → True := fun _ _ => trivial
  let Pv : Nat → Hp → Prop := fun i H' => ∃ acc aV M' G', I i acc M' ∧ acc.length ≤ i ∧ Hst X.K G' M' H' ∧ Stp G M H G' M' H' ∧ Same G1 G' ∧ H' D = some (.lst aV) ∧ DenL X.K G' acc aV ∧ G' D = none ∧ D ∉ adr M'
  have laid : ∀ {G' H' : Hp} {M' : Mem} {xs : List V}, Hst X.K G' M' H' → G' D = none → D ∉ adr M' → Hst X.K G' M' (upd H' D (.lst xs)) := fun {G' H' M' xs} h g n =>
    ⟨fun b o e => by rw [upd_ne (fun z => by rw [z, g] at e; cases e)]; exact h.sub b o e, fun c hc => (h.mem c hc).up (Same.refl _) fun b hb o e => by rw [upd_ne (fun z => n (by rw [← z]; exact List.mem_flatMap.mpr ⟨c, hc, hb⟩))]; exact e, h.out, h.nd⟩
  have stp : ∀ {G' H' : Hp} {M' : Mem} {xs : List V}, Stp G M H G' M' H' → Stp G M H G' M' (upd H' D (.lst xs)) := fun {G' H' M' xs} s =>
    ⟨s.gg, fun b o n e => by rw [upd_ne (hDH b o n e)]; exact s.hh b o n e, s.fr, s.ad⟩
  have n0 : D ∉ adr M1 := fun z => h1.there D z hD
  have g0 : G1 D = none := h1.sub.free hD
  refine ⟨fun i m H' => m = ds.length - i ∧ i ≤ ds.length ∧ Pv i H', ⟨_, rfl, Nat.zero_le _, [], [], M1, G1, h0, Nat.zero_le _, laid h1 g0 n0, stp s1, Same.refl _, upd_same, .nil, g0, n0⟩, ?_⟩
  rintro i m H' ⟨rfl, hle, acc, aV, M', G', hI, hal, h', s', g', hDl, hda, hg', hn'⟩
  obtain ⟨w1, w2, w3⟩ := w G' M' H' g' h' (hOk _ _ _ hI)
  -- D through a step
  have thru : ∀ {G2 H2 : Hp} {M2 : Mem}, Stp G' M' H' G2 M2 H2 → H2 D = some (.lst aV) ∧ DenL X.K G2 acc aV ∧ G2 D = none ∧ D ∉ adr M2 := fun {G2 H2 M2} s =>
    ⟨s.hh D _ hn' hDl, hda.up s.gg, s.fr D (by rw [hDl]; exact fun z => nomatch z) hn' hg', fun z => (s.ad D z).elim hn' fun q => by rw [hDl] at q; cases q⟩
  by_cases hlt : i < ds.length
  · refine .inr ⟨w1 i hlt, fun H2 => Pv (i + 1) H2, fun H2 q => ⟨ds.length - (i + 1), by omega, rfl, hlt, q⟩, fun x H2 y => ?_⟩
    obtain ⟨G2, s2, h2, dx⟩ := w3 i x H2 hlt y
    have hd' := List.getElem?_eq_getElem hlt
    have eW : DenE X.K (wipeT τ vs) G2 (wipe σ vs) := denE_wipe ((hE.up s'.gg).up s2.gg) vs
    intro sA HA CA clA fpA
    refine hb i _ acc M' hd' hI sA HA CA clA fpA (wipe σ vs) G2 H2 x eW h2 (dx _ hd') _ ?_
    intro τ3 M3 G3 H3 σ3 p3 s3 h3 e3 l3 k3
    refine ⟨?_, fun sB HB CB clB fpB => ?_⟩
    · rw [wipe_ext l3 k3, wipe_wipe]
    refine p3 sB HB CB clB fpB σ3 G3 H3 e3 h3 _ ?_
    intro bb M4 G4 H4 ⟨p4, p4'⟩ s4 h4
    have s24 := (s2.trans s3).trans s4
    cases bb with
    | false =>
      refine iteF ?_
      obtain ⟨t1, t2, t3, t4⟩ := thru s24
      exact ⟨acc, aV, M4, G4, p4' rfl, by omega, h4, s'.trans s24, g'.trans s24.gg, t1, t2, t3, t4⟩
    | true =>
      refine iteT fun sC HC CC clC fpC => ?_
      refine (p4 rfl sC HC CC clC fpC).run _ takes0 σ3 G4 H4 (e3.up s4.gg) h4 _ ?_ noX
      intro y5 M5 v5 G5 H5 p5 s5 h5 d5
      have s25 := s24.trans s5
      obtain ⟨t1, t2, t3, t4⟩ := thru s25
      refine ⟨aV, t1, by rw [hda.length]; omega, acc ++ [y5], aV ++ [v5], M5, G5, p5, by rw [List.length_append]; simp; omega, laid h5 t3 t4, stp (s'.trans s25), g'.trans s25.gg, upd_same, t2.snoc d5, t3, t4⟩
  · have e : i = ds.length := by omega
    subst e
    refine .inl ⟨w2, ?_⟩
    have up : Same G' (upd G' D (.lst aV)) := fun b o e => by rw [upd_ne (ne_of_none e hg')]; exact e
    have hF : Hst X.K (upd G' D (.lst aV)) M' H' := ⟨fun b o e => by
      by_cases c : b = D
      · subst c; rw [upd_same] at e; cases e; exact hDl
      · rw [upd_ne c] at e; exact h'.sub b o e, fun c hc => (h'.mem c hc).up up fun _ _ _ e => e, fun b hb => by rw [upd_ne (fun z => hn' (by rw [← z]; exact hb))]; exact h'.out b hb, h'.nd⟩
    have sF : Stp G M H (upd G' D (.lst aV)) M' H' := ⟨s'.gg.trans up, s'.hh, fun b hb n g => by
      rw [upd_ne (fun z => ?_)]
      · exact s'.fr b hb n g
      · cases q : H b with
        | none => exact hb q
        | some o => exact hDH b o n q z, s'.ad⟩
    exact hP _ _ _ _ _ (hd acc M' hI) sF hF (den_lst upd_same (hda.up up))
theorem ex_lc {scope : Scope} {ifs : List Expr} (own : List (Str × Nat)) (h : EI X tg iter τ M (fun ds M1 Ok => ds.length ≤ sizeLine ∧ ∃ I : Nat → List Dat → Mem → Prop, I 0 [] M1 ∧ (∀ i acc M, I i acc M → Ok M) ∧
      (∀ i d acc M, ds[i]? = some d → I i acc M → ∀ (s : Shared) (H : Hp) (C : Addr) (cl : List (Str × Addr)) (fp : List Addr), GC (Cx.Bk X scope s H C cl fp) (own.map (·.2)) tg d (wipeT τ (own.map (·.2))) M (fun τ2 M2 => ∀ (s : Shared) (H : Hp) (C : Addr) (cl : List (Str × Addr)) (fp : List Addr),
        EFs (Cx.Bk X scope s H C cl fp) ifs τ2 M2 (fun b M3 => (b = true → ∀ (s : Shared) (H : Hp) (C : Addr) (cl : List (Str × Addr)) (fp : List Addr), EX (Cx.Bk X scope s H C cl fp) false elt τ2 M3 (fun y M4 => I (i + 1) (acc ++ [y]) M4) E0') ∧ (b = false → I (i + 1) acc M3)))) ∧
      (∀ acc M, I ds.length acc M → P (.lst acc) M)) E)
    (ok : BlkOk X.N X.env.scope scope own := by exact blkOk_by (by first | decide +kernel | kernel_rfl)) (hN : X.N.Nodup := by first | decide +kernel | exact of_decide_eq_true (by kernel_rfl)) (hc : X.calm = true := by rfl) (hs : ∀ x, foldedSetIterable iter X.env x = pure x := by intro _; rfl) :
    EX X T (.ListComp elt [⟨tg, iter, ifs, 0⟩] scope pos) τ M P E := .mk fun W tk σ G H hE hH Q hP hX =>
  tW_of (pe_lc hc hN pi_W ok pg_fam pt_fam pe_fam hs) (lc_read h tk hE hH hP hX)
theorem ws_setLc {x : Str} {px : Pos} {scope : Scope} {ifs : List Expr} {lpos : Pos} {rest : List Stmt} {R : RK} (own : List (Str × Nat)) (h : EI X tg iter τ M (fun ds M1 Ok => ds.length ≤ sizeLine ∧ ∃ I : Nat → List Dat → Mem → Prop, I 0 [] M1 ∧ (∀ i acc M, I i acc M → Ok M) ∧
      (∀ i d acc M, ds[i]? = some d → I i acc M → ∀ (s : Shared) (H : Hp) (C : Addr) (cl : List (Str × Addr)) (fp : List Addr), GC (Cx.Bk X scope s H C cl fp) (own.map (·.2)) tg d (wipeT τ (own.map (·.2))) M (fun τ2 M2 => ∀ (s : Shared) (H : Hp) (C : Addr) (cl : List (Str × Addr)) (fp : List Addr),
        EFs (Cx.Bk X scope s H C cl fp) ifs τ2 M2 (fun b M3 => (b = true → ∀ (s : Shared) (H : Hp) (C : Addr) (cl : List (Str × Addr)) (fp : List Addr), EX (Cx.Bk X scope s H C cl fp) false elt τ2 M3 (fun y M4 => I (i + 1) (acc ++ [y]) M4) E0') ∧ (b = false → I (i + 1) acc M3)))) ∧
      (∀ acc M, I ds.length acc M → WS X T rest (τ.set (ixIn X.N x) (some (.lst acc))) M R)) (fun x M1 => R (.ex x τ) M1))
    (hi : X.N[ixIn X.N x]? = some x := by rfl) (hyl : X.env.scope.names.lookup x = some .local := by rfl) (hsw : swapsWith (.ListComp elt [⟨tg, iter, ifs, 0⟩] scope lpos) (some (.Name x px)) pos.line X.env = pure true := by exact sw_true rfl rfl rfl (by first | decide +kernel | kernel_rfl))
    (ok : BlkOk X.N X.env.scope scope own := by exact blkOk_by (by first | decide +kernel | kernel_rfl)) (hN : X.N.Nodup := by first | decide +kernel | exact of_decide_eq_true (by kernel_rfl)) (hc : X.calm = true := by rfl) (hs : ∀ x, foldedSetIterable iter X.env x = pure x := by intro _; rfl) :
    WS X T (.Assign [.Name x px] (.ListComp elt [⟨tg, iter, ifs, 0⟩] scope lpos) pos :: rest) τ M R := .mk fun W tk σ G H hE hH D hR => tWSs_len fun hl => by
  refine ws_step (ps_setLc hc hN hi hyl hsw pi_W ok pg_fam pt_fam pe_fam hs) ?_
  have hlt : ixIn X.N x < σ.length := by rw [hl]; exact (List.getElem?_eq_some_iff.mp hi).1
  exact lc_read (P := fun d M => ∃ acc, d = .lst acc ∧ WS X T rest (τ.set (ixIn X.N x) (some (.lst acc))) M R) (.mk fun W' tk' σ' G' H' hE' hH' R' hR' hX' => h.run W' tk' σ' G' H' hE' hH' R' (fun J ds M1 G1 H1 Ok ⟨hz, I, i1, i2, i3, i4⟩ => hR' J ds M1 G1 H1 Ok ⟨hz, I, i1, i2, i3, fun acc M hi => ⟨acc, rfl, i4 acc M hi⟩⟩) hX') tk hE hH
    (fun d M2 v G2 H2 ⟨acc, ed, r⟩ s h2 dv => by subst ed; exact r.run W tk _ G2 H2 ((hE.up s.gg).set hlt dv) h2 D (hR.step s)) (ex_out hR hE)
end
end Kh

set_option Elab.async false
set_option linter.all false
set_option maxRecDepth 100000
set_option maxHeartbeats 1000000
namespace Kh
open PySem PySem.Spec L2

section
variable {X : Cx} {T : Bool} {τ : TEnv} {M : Mem} {P : PK'} {E : XKx} {e a b c o : Expr} {es : List Expr} {pos apos : Pos} {R : RK} {rest : List Stmt}
theorem EX.t (h : EX X false e τ M P E) : EX X T e τ M P E := .mk fun W tk σ G H hE hH Q hP hX pins s _ I => h.run W tk σ G H hE hH Q hP hX pins s tk_f I
theorem ET.t {P : Bool → Mem → Prop} (h : ET X false e τ M P E) : ET X T e τ M P E := .mk fun W tk σ G H hE hH Q hP hX pins s _ I => h.run W tk σ G H hE hH Q hP hX pins s tk_f I
theorem WS.t {ss : List Stmt} (h : WS X false ss τ M R) : WS X T ss τ M R := .mk fun W tk σ G H hE hH D hR pins s _ I => h.run W tk σ G H hE hH D hR pins s tk_f I

/-! ### operators by values -/
theorem o_scal {f : Value → Value → Sem Value} {r : R2} {x y : Dat} (v u : V) (hv : ∀ G w, Den X.K G x w → w = v) (hu : ∀ G w, Den X.K G y w → w = u) (ho : OpR X f r) (h : ∀ G H, Hst X.K G M H → ∀ Q, CE' X.K G M H P Q → r v u H Q) : OP X T f x y M P :=
  op_of ho fun G H v' u' hH dx dy Q hP => by rw [hv _ _ dx, hu _ _ dy]; exact h G H hH Q hP
theorem o_eqS {x y : Dat} (v u : V) (hv : ∀ G w, Den X.K G x w → w = v) (hu : ∀ G w, Den X.K G y w → w = u) (hs : scal v u = true) (h : P (.bl (decide (v = u))) M) : OP X T (compareOp .Eq) x y M P := o_scal v u hv hu op_eq fun G H hH Q hP => ⟨hs, hP _ _ _ _ _ h Stp.refl hH den_bl⟩
theorem o_neS {x y : Dat} (v u : V) (hv : ∀ G w, Den X.K G x w → w = v) (hu : ∀ G w, Den X.K G y w → w = u) (hs : scal v u = true) (h : P (.bl (!decide (v = u))) M) : OP X T (compareOp .NotEq) x y M P := o_scal v u hv hu op_ne fun G H hH Q hP => ⟨hs, hP _ _ _ _ _ h Stp.refl hH den_bl⟩
theorem vint {a b : Int} : decide (V.int a = V.int b) = decide (a = b) := by by_cases h : a = b <;> simp [h]
theorem vstr {a b : Str} : decide (V.str a = V.str b) = decide (a = b) := by by_cases h : a = b <;> simp [h]
theorem vbl {a b : Bool} : decide (V.bl a = V.bl b) = decide (a = b) := by by_cases h : a = b <;> simp [h]
theorem o_eqI {i j : Int} (h : P (.bl (decide (i = j))) M) : OP X T (compareOp .Eq) (.int i) (.int j) M P := o_eqS (.int i) (.int j) (fun _ _ d => d.int_inv) (fun _ _ d => d.int_inv) rfl (by rw [vint]; exact h)
theorem o_neI {i j : Int} (h : P (.bl (!decide (i = j))) M) : OP X T (compareOp .NotEq) (.int i) (.int j) M P := o_neS (.int i) (.int j) (fun _ _ d => d.int_inv) (fun _ _ d => d.int_inv) rfl (by rw [vint]; exact h)
theorem o_eqT {i j : Str} (h : P (.bl (decide (i = j))) M) : OP X T (compareOp .Eq) (.str i) (.str j) M P := o_eqS (.str i) (.str j) (fun _ _ d => d.str_inv) (fun _ _ d => d.str_inv) rfl (by rw [vstr]; exact h)
theorem o_neT {i j : Str} (h : P (.bl (!decide (i = j))) M) : OP X T (compareOp .NotEq) (.str i) (.str j) M P := o_neS (.str i) (.str j) (fun _ _ d => d.str_inv) (fun _ _ d => d.str_inv) rfl (by rw [vstr]; exact h)
theorem o_eqB {i j : Bool} (h : P (.bl (decide (i = j))) M) : OP X T (compareOp .Eq) (.bl i) (.bl j) M P := o_eqS (.bl i) (.bl j) (fun _ _ d => d.bl_inv) (fun _ _ d => d.bl_inv) rfl (by rw [vbl]; exact h)
theorem o_neB {i j : Bool} (h : P (.bl (!decide (i = j))) M) : OP X T (compareOp .NotEq) (.bl i) (.bl j) M P := o_neS (.bl i) (.bl j) (fun _ _ d => d.bl_inv) (fun _ _ d => d.bl_inv) rfl (by rw [vbl]; exact h)
/-- is None -/
def Dat.isN : Dat → Bool
  | .non => true
  | _ => false
theorem den_isN {K : PySem.W.Frag} {G : Hp} {d : Dat} {v : V} (h : Den K G d v) (hr : ∀ u, d ≠ .raw u) : decide (v = .non) = d.isN := by
  cases d with
  | non => rw [h.non_inv]; rfl
  | bl b => rw [h.bl_inv]; rfl
  | int i => rw [h.int_inv]; rfl
  | str s => rw [h.str_inv]; rfl
  | raw u => exact absurd rfl (hr u)
  | dic0 => obtain ⟨p, rfl, _⟩ := h.dic0_inv; rfl
  | scr ns => obtain ⟨p, rfl, _⟩ := h.scr_inv; rfl
  | lst ds => obtain ⟨p, vs, rfl, _⟩ := h.lst_inv; rfl
  | tup ds => obtain ⟨p, vs, rfl, _⟩ := h.tup_inv; rfl
  | obj C ns ds => obtain ⟨p, dx, vs, rfl, _⟩ := h.obj_inv; rfl
  | xn a dd ns ds => obtain ⟨vs, rfl, _⟩ := h.xn_inv; rfl
  | «at» a d => obtain ⟨rfl, _⟩ := h.at_inv; rfl
theorem o_isN {x : Dat} (hr : ∀ u, x ≠ .raw u) (h : P (.bl x.isN) M) : OP X T (compareOp .Is) x .non M P := op_of op_isN fun G H v u hH dx dy Q hP => ⟨dy.non_inv, by rw [den_isN dx hr]; exact hP _ _ _ _ _ h Stp.refl hH den_bl⟩
theorem o_notN {x : Dat} (hr : ∀ u, x ≠ .raw u) (h : P (.bl (!x.isN)) M) : OP X T (compareOp .IsNot) x .non M P := op_of op_notN fun G H v u hH dx dy Q hP => ⟨dy.non_inv, by rw [den_isN dx hr]; exact hP _ _ _ _ _ h Stp.refl hH den_bl⟩
/-- ints -/
theorem o_mul {i j : Int} (hc : CMulW i j) (h : P (.int (i * j)) M) : OP X T (binaryOp .Mult) (.int i) (.int j) M P := op_IIc op_mulW hc (fun _ => den_int) h
theorem o_mulS {i j : Int} (hc : (-(2 ^ 64) < i ∧ i < 2 ^ 64) ∨ (-(2 ^ 64) < j ∧ j < 2 ^ 64)) (h : P (.int (i * j)) M) : OP X T (binaryOp .Mult) (.int i) (.int j) M P := op_IIc op_mul hc (fun _ => den_int) h
theorem o_mod {i j : Int} (hc : 0 < j) (h : P (.int (i % j)) M) : OP X T (binaryOp .Mod) (.int i) (.int j) M P := op_IIc op_mod hc (fun _ => den_int) h
theorem o_div {i j : Int} (hc : CDivW i j) (h : P (.int (i / j)) M) : OP X T (binaryOp .FloorDiv) (.int i) (.int j) M P := op_IIc op_fdivW hc (fun _ => den_int) h
theorem o_pow {i j : Int} (hc : CPow i j) (h : P (.int (i ^ j.toNat)) M) : OP X T (binaryOp .Pow) (.int i) (.int j) M P := op_IIc op_pow hc (fun _ => den_int) h
theorem o_shr {i j : Int} (hc : 0 ≤ j) (h : P (.int (i / 2 ^ j.toNat)) M) : OP X T (binaryOp .RShift) (.int i) (.int j) M P := op_IIc op_shr hc (fun _ => den_int) h
theorem o_shl {i j : Int} (hc : CPow i j) (h : P (.int (i * 2 ^ j.toNat)) M) : OP X T (binaryOp .LShift) (.int i) (.int j) M P := op_IIc op_shl hc (fun _ => den_int) h
theorem o_bor {i j : Int} (h : P (.int (Builtin.bitOr i j)) M) : OP X T (binaryOp .BitOr) (.int i) (.int j) M P := op_II op_or (fun _ => den_int) h
theorem o_band {i j : Int} (h : P (.int (Builtin.bitAnd i j)) M) : OP X T (binaryOp .BitAnd) (.int i) (.int j) M P := op_II op_and (fun _ => den_int) h
theorem ex_neg (h : EX X T a τ M (fun d M1 => ∃ i, d = .int i ∧ P (.int (-i)) M1) E) : EX X T (.UnaryOp .USub a pos) τ M P E := .mk fun W tk σ G H hE hH Q hP hX pins s k I =>
  UnaryOp_ (thn (h.run W tk σ G H hE hH (fun x H1 => ∃ i, x = .int i ∧ Q (.int (-i)) H1) (fun d M1 v G1 H1 ⟨i, ed, hp⟩ s1 h1 dv => by subst ed; exact ⟨i, dv.int_inv, hP _ _ _ _ _ hp s1 h1 den_int⟩) hX pins s k I) fun v s1 ⟨x, H1, I1, r1, q⟩ => un_neg pins s1 σ H1 x v Q I1 r1 q)
where UnaryOp_ := @PyProof.Rows.UnaryOp_
/-- texts -/
theorem o_cat {i j : Str} (hl : i.length + j.length ≤ sizeLine) (h : P (.str (i ++ j)) M) : OP X T (binaryOp .Add) (.str i) (.str j) M P := op_of op_add_str fun G H v u hH dx dy Q hP => ⟨i, j, dx.str_inv, dy.str_inv, hl, hP _ _ _ _ _ h Stp.refl hH den_str⟩
theorem o_inS {c : Nat} {z : Str} (h : P (.bl (decide (c ∈ z.cps.toList))) M) : OP X T (compareOp .In) (.str ⟨#[c]⟩) (.str z) M P := op_of op_in_sign fun G H v u hH dx dy Q hP => ⟨c, z, dx.str_inv, dy.str_inv, hP _ _ _ _ _ h Stp.refl hH den_bl⟩
theorem o_notInS {c : Nat} {z : Str} (h : P (.bl (!decide (c ∈ z.cps.toList))) M) : OP X T (compareOp .NotIn) (.str ⟨#[c]⟩) (.str z) M P := op_of op_notIn_sign fun G H v u hH dx dy Q hP => ⟨c, z, dx.str_inv, dy.str_inv, hP _ _ _ _ _ h Stp.refl hH den_bl⟩
theorem o_ltT {i j : Str} (h : P (.bl (decide (i.cps.toList < j.cps.toList))) M) : OP X T (compareOp .Lt) (.str i) (.str j) M P := op_of op_lt_str fun G H v u hH dx dy Q hP => ⟨i, j, dx.str_inv, dy.str_inv, hP _ _ _ _ _ h Stp.refl hH den_bl⟩
/-- a text so many times -/
def repS (z : Str) (n : Int) : Str := ⟨(List.replicate n.toNat z.cps.toList).flatten.toArray⟩
theorem rep_fold : ∀ (n : Nat) (l acc : Array Nat), ((List.replicate n l).foldl (· ++ ·) acc).toList = acc.toList ++ (List.replicate n l.toList).flatten
  | 0, l, acc => by simp
  | n + 1, l, acc => by
    rw [List.replicate_succ, List.foldl_cons, rep_fold n l (acc ++ l), List.replicate_succ, List.flatten_cons, Array.toList_append, List.append_assoc]
theorem str_ext {x y : Str} (h : x.cps.toList = y.cps.toList) : x = y := by
  obtain ⟨x⟩ := x; obtain ⟨y⟩ := y
  congr 1
  exact Array.toList_inj.mp h
theorem op_repS : OpR X (binaryOp .Mult) (fun x y H Q => ∃ z n, x = .str z ∧ y = .int n ∧ (-(2 ^ 63) ≤ n ∧ n < 2 ^ 63) ∧ z.length * n.toNat ≤ sizeLine ∧ Q (.str (repS z n)) H) := by
  intro pins s σ H x y v u Q I rx ry h
  obtain ⟨z, n, rfl, rfl, ⟨b1, b2⟩, hl, q⟩ := h
  obtain ⟨t, rfl⟩ := rx
  obtain ⟨t', rfl⟩ := ry
  have hz : z.cps.size = z.length := rfl
  have sl : sizeLine = 16777216 := sizeLine_eq
  refine PySem.P.mul_str ?_ (fun h1 h2 h3 => ?_) (fun h1 h2 => ?_) ?_
  · rw [decide_eq_false (by omega), decide_eq_false (by omega)]; rfl
  · have hn : (1 : Int) ≤ n := by omega
    have : (z.length : Int) * n ≤ 16777216 := by
      have : ((z.length * n.toNat : Nat) : Int) ≤ 16777216 := by omega
      rwa [Int.natCast_mul, Int.toNat_of_nonneg (by omega)] at this
    have h4 : (z.length : Int) ≤ (2 ^ 63 - 1) / n := by
      rw [Int.le_ediv_iff_mul_le (by omega)]; omega
    omega
  · exact decide_eq_false (by omega)
  · have fin : ∀ (t'' : Tok) (k : Nat) (w : Str), w = repS z n → EP X pins σ Q (.str w t'') { s with toks := k } := fun t'' k w e => ⟨.str (repS z n), H, I.tok k, ⟨t'', by rw [e]⟩, q⟩
    split
    · refine ⟨by simp [Str.empty, Str.length, sl], fin _ _ _ (str_ext ?_)⟩
      have : n.toNat = 0 := by omega
      simp [repS, this, Str.empty]
    · split
      · rename_i h1 h2
        refine fin _ _ _ (str_ext ?_)
        rcases Bool.or_eq_true _ _ ▸ h2 with h2 | h2
        · have : n = 1 := by simpa using h2
          subst this
          simp [repS]
        · have : z.cps.toList = [] := by
            have : z.length = 0 := by simpa using h2
            rw [← hz] at this
            exact List.length_eq_zero_iff.mp (by simpa using this)
          simp [repS, this]
      · refine ⟨?_, fin _ _ _ (str_ext ?_)⟩
        · have : (⟨(List.replicate n.toNat z.cps).foldl (· ++ ·) #[]⟩ : Str).length = z.length * n.toNat := by
            show ((List.replicate n.toNat z.cps).foldl (· ++ ·) #[]).size = _
            rw [← Array.length_toList, rep_fold]
            simp [Nat.mul_comm, hz]
          rw [this]; exact hl
        · rw [rep_fold]; simp [repS]
theorem o_repS {z : Str} {n : Int} (hb : -(2 ^ 63) ≤ n ∧ n < 2 ^ 63) (hl : z.length * n.toNat ≤ sizeLine) (h : P (.str (repS z n)) M) : OP X T (binaryOp .Mult) (.str z) (.int n) M P := op_of op_repS fun G H v u hH dx dy Q hP => ⟨z, n, dx.str_inv, dy.int_inv, hb, hl, hP _ _ _ _ _ h Stp.refl hH den_str⟩
/-- lists -/
theorem o_catL {xs ys : List Dat} (hl : xs.length + ys.length ≤ sizeLine) (h : P (.lst (xs ++ ys)) M) : OP X T (binaryOp .Add) (.lst xs) (.lst ys) M P := op_of op_cat fun G H v u hH dx dy Q hP => by
  obtain ⟨p, vs, rfl, g1, d1⟩ := dx.lst_inv
  obtain ⟨q, us, rfl, g2, d2⟩ := dy.lst_inv
  refine ⟨p, q, vs, us, rfl, rfl, hH.sub _ _ g1, hH.sub _ _ g2, by rw [d1.length, d2.length]; exact hl, fun r hr => ?_⟩
  obtain ⟨s2, h2⟩ := Stp.new (o := .lst (vs ++ us)) hH hr
  exact hP _ _ _ _ _ h s2 h2 (den_lst upd_same ((d1.append d2).up s2.gg))
theorem DenL.flat {K : PySem.W.Frag} {G : Hp} {ds : List Dat} {vs : List V} (h : DenL K G ds vs) : ∀ n : Nat, DenL K G (List.replicate n ds).flatten (List.replicate n vs).flatten
  | 0 => by simp only [List.replicate_zero, List.flatten_nil]; exact .nil
  | n + 1 => by simp only [List.replicate_succ, List.flatten_cons]; exact h.append (DenL.flat h n)
theorem o_repL {xs : List Dat} {n : Int} (hb : -(2 ^ 63) ≤ n ∧ n < 2 ^ 63) (hl : xs.length * n.toNat ≤ sizeLine) (h : P (.lst (List.replicate n.toNat xs).flatten) M) : OP X T (binaryOp .Mult) (.lst xs) (.int n) M P := op_of op_rep fun G H v u hH dx dy Q hP => by
  obtain ⟨p, vs, rfl, g1, d1⟩ := dx.lst_inv
  refine ⟨p, n, vs, rfl, dy.int_inv, hH.sub _ _ g1, hb.1, hb.2, by rw [d1.length]; exact hl, fun r hr => ?_⟩
  obtain ⟨s2, h2⟩ := Stp.new (o := .lst (List.replicate n.toNat vs).flatten) hH hr
  exact hP _ _ _ _ _ h s2 h2 (den_lst upd_same ((d1.flat _).up s2.gg))

/-! ### subscripts -/
def IQ (K : PySem.W.Frag) (x y : Dat) (M : Mem) (P : PK') : Prop := ∀ G H v u, Hst K G M H → Den K G x v → Den K G y u → ∀ Q, CE' K G M H P Q → rIx K v u H Q
theorem ex_ix (h : EX X T a τ M (fun x M1 => EX X T b τ M1 (fun y M2 => IQ X.K x y M2 P) E) E) (hs : PlainIx b := by exact fun _ _ => rfl) : EX X T (.Subscript a b pos) τ M P E := by
  refine .mk ?_; intro W tk σ G H hE hH Q hP hX pins s k I
  have hA := h.run W tk σ G H hE hH (fun x H1 => tW X T b σ H1 fun y H2 => rIx X.K x y H2 Q) (fun x M1 v G1 H1 hb s1 h1 dx => hb.run W tk σ G1 H1 (hE.up s1.gg) h1 _ (fun y M2 u G2 H2 ho s2 h2 dy => ho G2 H2 v u h2 (dx.up s2.gg) dy Q (hP.step (s1.trans s2))) (hX.step s1)) hX
  exact PyProof.Rows.Subscript_ (thnT k (hA pins s k I) fun v s1 k1 ⟨x, H1, I1, r1, q1⟩ => thn (q1 pins s1 k1 I1) fun u s2 ⟨y, H2, I2, r2, q2⟩ => ix_seq a b pins s2 σ H2 x y v u Q I2 r1 r2 q2 (hs _ _))
theorem atI_den {K : PySem.W.Frag} {G : Hp} {ds : List Dat} {vs : List V} {i : Int} {d : Dat} (h : DenL K G ds vs) (e : atI ds i = some d) : ∃ v, atI vs i = some v ∧ Den K G d v := by
  unfold atI at e ⊢
  rw [h.length]
  cases q : ixN ds.length i with
  | none => rw [q] at e; cases e
  | some j => rw [q] at e; exact h.get e
theorem i_lst {ds : List Dat} {i : Int} {d : Dat} (e : atI ds i = some d) (h : P d M) {K : PySem.W.Frag} : IQ K (.lst ds) (.int i) M P := fun G H v u hH dx dy Q hP => by
  obtain ⟨p, vs, rfl, g, dl⟩ := dx.lst_inv
  obtain ⟨w, e1, d1⟩ := atI_den dl e
  exact .inl ⟨p, vs, i, w, rfl, dy.int_inv, SqL.of (hH.sub _ _ g), e1, hP _ _ _ _ _ h Stp.refl hH d1⟩
theorem i_tup {ds : List Dat} {i : Int} {d : Dat} (e : atI ds i = some d) (h : P d M) {K : PySem.W.Frag} : IQ K (.tup ds) (.int i) M P := fun G H v u hH dx dy Q hP => by
  obtain ⟨p, vs, rfl, g, dl⟩ := dx.tup_inv
  obtain ⟨w, e1, d1⟩ := atI_den dl e
  exact .inr (.inl ⟨p, vs, i, w, rfl, dy.int_inv, SqT.of (hH.sub _ _ g), e1, hP _ _ _ _ _ h Stp.refl hH d1⟩)
theorem i_cell {p : Addr} {ds : List Dat} {i : Int} {d : Dat} (hm : (p, MC.lst ds) ∈ M) (e : atI ds i = some d) (h : P d M) {K : PySem.W.Frag} : IQ K (.raw (.ref p)) (.int i) M P := fun G H v u hH dx dy Q hP => by
  obtain ⟨vs, g, dl⟩ := hH.mem _ hm
  obtain ⟨w, e1, d1⟩ := atI_den dl e
  exact .inl ⟨p, vs, i, w, dx.raw_inv, dy.int_inv, SqL.of g, e1, hP _ _ _ _ _ h Stp.refl hH d1⟩
theorem i_scr {ns : List Int} {i n : Int} (e : atI ns i = some n) (h : P (.int n) M) {K : PySem.W.Frag} : IQ K (.scr ns) (.int i) M P := fun G H v u hH dx dy Q hP => by
  obtain ⟨p, rfl, g⟩ := dx.scr_inv
  refine .inl ⟨p, _, i, .int n, rfl, dy.int_inv, hH.sub.seq g, ?_, hP _ _ _ _ _ h Stp.refl hH den_int⟩
  unfold atI at e ⊢
  rw [List.length_map]
  cases q : ixN ns.length i with
  | none => rw [q] at e; cases e
  | some j =>
    rw [q] at e
    show (ns.map V.int)[j]? = _
    rw [List.getElem?_map, show ns[j]? = some n from e]; rfl
theorem i_str {z : Str} {i : Int} {c : Nat} (hl : z.length ≤ sizeLine) (e : atI z.cps.toList i = some c) (h : P (.str ⟨#[c]⟩) M) {K : PySem.W.Frag} : IQ K (.str z) (.int i) M P := fun G H v u hH dx dy Q hP =>
  .inr (.inr ⟨z, i, c, dx.str_inv, dy.int_inv, hl, e, hP _ _ _ _ _ h Stp.refl hH den_str⟩)
end
end Kh

set_option Elab.async false
set_option linter.all false
set_option maxRecDepth 100000
set_option maxHeartbeats 1000000
namespace Kh
open PySem PySem.Spec L2

section
variable {X : Cx} {T : Bool} {τ : TEnv} {M : Mem} {P : PK'} {E : XKx} {e a b c o : Expr} {es : List Expr} {pos apos p2 : Pos} {R : RK} {rest : List Stmt}
/-! ### slices -/
def tWO (X : Cx) (T : Bool) (e : Option Expr) : TO := fun σ H Q => ∀ pins s, Tk T s → Inv X pins σ H s → wpAny (model X.prog X.w) X.A (evalPart e X.env) (fun u s' => ∃ o H', Inv X pins σ H' s' ∧ IsPart u o ∧ Q o H') X.xe s
structure EP' (X : Cx) (T : Bool) (e : Option Expr) (τ : TEnv) (M : Mem) (P : Option Int → Mem → Prop) (E : XKx) : Prop where
  run : ∀ W, Takes X W → ∀ σ G H, DenE X.K τ G σ → Hst X.K G M H → ∀ Q : Option Int → Hp → Prop, (∀ i M2 G2 H2, P i M2 → Stp G M H G2 M2 H2 → Hst X.K G2 M2 H2 → Q i H2) → CX' X.K G M H E (fun c d H2 => W c d σ H2) → tWO X T e σ H Q
theorem ep_none {P : Option Int → Mem → Prop} (h : P none M) : EP' X T none τ M P E := .mk fun W tk σ G H hE hH Q hP hX pins s k I => po_none.run pins s σ H Q I (hP _ _ _ _ h Stp.refl hH)
theorem ep_some {P : Option Int → Mem → Prop} (h : EX X T e τ M (fun d M1 => ∃ i, d = .int i ∧ P (some i) M1) E) : EP' X T (some e) τ M P E := .mk fun W tk σ G H hE hH Q hP hX pins s k I => by
  rw [evalPart_some]
  refine thn (h.run W tk σ G H hE hH (fun x H1 => ∃ i, x = .int i ∧ Q (some i) H1) (fun d M1 v G1 H1 ⟨i, ed, hp⟩ s1 h1 dv => by subst ed; exact ⟨i, dv.int_inv, hP _ _ _ _ hp s1 h1⟩) hX pins s k I) fun u s1 ⟨x, H1, I1, r1, i, ex, q⟩ => ?_
  subst ex
  obtain ⟨t, rfl⟩ := r1
  exact ⟨some i, H1, I1, .int i t, q⟩
/-- a slice, by values -/
def SQ (X : Cx) (x : Dat) (lo hi : Option Int) (M : Mem) (P : PK') : Prop := ∃ r, SlR X r ∧ ∀ G H v, Hst X.K G M H → Den X.K G x v → ∀ Q, CE' X.K G M H P Q → r v lo hi H Q
theorem ex_sl {lo hi : Option Expr} (h : EX X T e τ M (fun x M1 => EP' X T lo τ M1 (fun l M2 => EP' X T hi τ M2 (fun u M3 => SQ X x l u M3 P) E) E) E) : EX X T (.Subscript e (.Slice lo hi none p2) pos) τ M P E := by
  refine .mk ?_; intro W tk σ G H hE hH Q hP hX pins s k I
  have hA := h.run W tk σ G H hE hH (fun x H1 => tWO X T lo σ H1 fun l H2 => tWO X T hi σ H2 fun u H3 => ∃ r, SlR X r ∧ r x l u H3 Q) (fun x M1 v G1 H1 hb s1 h1 dx =>
    hb.run W tk σ G1 H1 (hE.up s1.gg) h1 _ (fun l M2 G2 H2 hb2 s2 h2 => hb2.run W tk σ G2 H2 ((hE.up s1.gg).up s2.gg) h2 _ (fun u M3 G3 H3 ⟨r, hr, hq⟩ s3 h3 =>
      ⟨r, hr, hq G3 H3 v h3 ((dx.up s2.gg).up s3.gg) Q (hP.step ((s1.trans s2).trans s3))⟩) (hX.step (s1.trans s2))) (hX.step s1)) hX
  refine PyProof.Rows.Subscript_ (thnT k (hA pins s k I) fun v s1 k1 ⟨x, H1, I1, r1, q1⟩ => ?_)
  refine wpAny_Slice (thnT k1 (q1 pins s1 k1 I1) fun vl s2 k2 ⟨l, H2, I2, pl, q2⟩ => thn (q2 pins s2 k2 I2) fun vu s3 ⟨u, H3, I3, pu, r, hr, q3⟩ => ?_)
  rw [evalPart_none]
  refine wpAny_pure ?_
  have I4 : Inv X pins σ H3 { s3 with heap := s3.heap.push { cls := .type "slice", data := .fields #[vl, vu, .none] } } := I3.kept (t' := s3.toks) fun b ob q => Heap.get?_push_of_some _ q
  obtain ⟨T', id, hT, ht, hg⟩ := hr pins { s3 with heap := s3.heap.push { cls := .type "slice", data := .fields #[vl, vu, .none] } } σ H3 x v vl vu l u s3.heap.objs.size Q I4 r1 (Heap.IsSliceOf.new ..) pl pu q3
  show wpAny (model X.prog X.w) X.A (PyProof.Rows.subscriptTail e (.Slice lo hi none p2) v (.ref s3.heap.objs.size)) (EP X pins σ Q) X.xe { s3 with heap := s3.heap.push { cls := .type "slice", data := .fields #[vl, vu, .none] } }
  exact PyProof.Rows.tail_any (ops := [.ref s3.heap.objs.size, v]) ht hT hg (by with_unfolding_all rfl)
/-- the items between two places -/
def cutD {α : Type} (xs : List α) (lo hi : Option Int) : List α := (xs.drop (HT.sIx xs.length 0 lo)).take (HT.sIx xs.length xs.length hi - HT.sIx xs.length 0 lo)
theorem denL_cut {K : PySem.W.Frag} {G : Hp} {ds : List Dat} {vs : List V} {lo hi : Option Int} (h : DenL K G ds vs) : DenL K G (cutD ds lo hi) (cutV vs lo hi) := by
  unfold cutD cutV
  rw [h.length]
  exact (h.drop _).take _
theorem l_lst {ds : List Dat} {lo hi : Option Int} (h : P (.lst (cutD ds lo hi)) M) : SQ X (.lst ds) lo hi M P := ⟨_, sl_list, fun G H v hH dx Q hP => by
  obtain ⟨p, vs, rfl, g, dl⟩ := dx.lst_inv
  refine ⟨p, vs, rfl, SqL.of (hH.sub _ _ g), fun r hr => ?_⟩
  obtain ⟨s2, h2⟩ := Stp.new (o := .lst (cutV vs lo hi)) hH hr
  exact hP _ _ _ _ _ h s2 h2 (den_lst upd_same ((denL_cut dl).up s2.gg))⟩
theorem l_cell {p : Addr} {ds : List Dat} {lo hi : Option Int} (hm : (p, MC.lst ds) ∈ M) (h : P (.lst (cutD ds lo hi)) M) : SQ X (.raw (.ref p)) lo hi M P := ⟨_, sl_list, fun G H v hH dx Q hP => by
  obtain ⟨vs, g, dl⟩ := hH.mem _ hm
  refine ⟨p, vs, dx.raw_inv, SqL.of g, fun r hr => ?_⟩
  obtain ⟨s2, h2⟩ := Stp.new (o := .lst (cutV vs lo hi)) hH hr
  exact hP _ _ _ _ _ h s2 h2 (den_lst upd_same ((denL_cut dl).up s2.gg))⟩
theorem l_scr {ns : List Int} {lo hi : Option Int} (h : P (.lst ((cutD ns lo hi).map Dat.int)) M) : SQ X (.scr ns) lo hi M P := ⟨_, sl_list, fun G H v hH dx Q hP => by
  obtain ⟨p, rfl, g⟩ := dx.scr_inv
  refine ⟨p, _, rfl, hH.sub.seq g, fun r hr => ?_⟩
  obtain ⟨s2, h2⟩ := Stp.new (o := .lst (cutV (ns.map V.int) lo hi)) hH hr
  refine hP _ _ _ _ _ h s2 h2 (den_lst upd_same ?_)
  have e : cutV (ns.map V.int) lo hi = (cutD ns lo hi).map V.int := by unfold cutV cutD; rw [List.length_map, List.map_take, List.map_drop]
  rw [e]; exact denL_ints⟩
theorem l_str {z : Str} {lo hi : Option Int} (hl : z.length ≤ sizeLine) (h : P (.str (cutS z lo hi)) M) : SQ X (.str z) lo hi M P := ⟨_, sl_str, fun G H v hH dx Q hP => ⟨z, dx.str_inv, hl, hP _ _ _ _ _ h Stp.refl hH den_str⟩⟩
theorem l_tup {ds : List Dat} {lo hi : Option Int} (hw : ¬ (HT.sIx ds.length 0 lo = 0 ∧ HT.sIx ds.length ds.length hi = ds.length)) (h : P (.tup (cutD ds lo hi)) M) : SQ X (.tup ds) lo hi M P := ⟨_, sl_tup, fun G H v hH dx Q hP => by
  obtain ⟨p, vs, rfl, g, dl⟩ := dx.tup_inv
  refine ⟨p, vs, rfl, SqT.of (hH.sub _ _ g), by rw [dl.length]; exact hw, fun r hr => ?_⟩
  obtain ⟨s2, h2⟩ := Stp.new (o := .tup (cutV vs lo hi)) hH hr
  exact hP _ _ _ _ _ h s2 h2 (den_tup upd_same ((denL_cut dl).up s2.gg))⟩

/-! ### built-ins by values -/
theorem bc_of {f : Value} {r : List V → Hp → VK → Prop} {ds : List Dat} (hr : CallR X f r) (h : ∀ G H vs, Hst X.K G M H → DenL X.K G ds vs → ∀ Q, CE' X.K G M H P Q → r vs H Q) : BC X f ds M P := ⟨r, hr, h⟩
theorem one_inv {K : PySem.W.Frag} {G : Hp} {d : Dat} {vs : List V} (h : DenL K G [d] vs) : ∃ v, vs = [v] ∧ Den K G d v := by
  obtain ⟨v, r, rfl, d1, t⟩ := h.cons_inv
  rw [t.nil_inv]; exact ⟨v, rfl, d1⟩
theorem two_inv {K : PySem.W.Frag} {G : Hp} {d e : Dat} {vs : List V} (h : DenL K G [d, e] vs) : ∃ v u, vs = [v, u] ∧ Den K G d v ∧ Den K G e u := by
  obtain ⟨v, r, rfl, d1, t⟩ := h.cons_inv
  obtain ⟨u, rfl, d2⟩ := one_inv t
  exact ⟨v, u, rfl, d1, d2⟩
theorem c_len_lst {ds : List Dat} (h : P (.int ds.length) M) : BC X (.builtin "len") [.lst ds] M P := bc_of call_len_seq fun G H vs hH dv Q hP => by
  obtain ⟨v, rfl, d⟩ := one_inv dv
  obtain ⟨p, us, rfl, g, dl⟩ := d.lst_inv
  exact ⟨p, us, rfl, .inl (SqL.of (hH.sub _ _ g)), by rw [dl.length]; exact hP _ _ _ _ _ h Stp.refl hH den_int⟩
theorem c_len_tup {ds : List Dat} (h : P (.int ds.length) M) : BC X (.builtin "len") [.tup ds] M P := bc_of call_len_seq fun G H vs hH dv Q hP => by
  obtain ⟨v, rfl, d⟩ := one_inv dv
  obtain ⟨p, us, rfl, g, dl⟩ := d.tup_inv
  exact ⟨p, us, rfl, .inr (SqT.of (hH.sub _ _ g)), by rw [dl.length]; exact hP _ _ _ _ _ h Stp.refl hH den_int⟩
theorem c_len_cell {p : Addr} {ds : List Dat} (hm : (p, MC.lst ds) ∈ M) (h : P (.int ds.length) M) : BC X (.builtin "len") [.raw (.ref p)] M P := bc_of call_len_seq fun G H vs hH dv Q hP => by
  obtain ⟨v, rfl, d⟩ := one_inv dv
  obtain ⟨us, g, dl⟩ := hH.mem _ hm
  exact ⟨p, us, by rw [d.raw_inv], .inl (SqL.of g), by rw [dl.length]; exact hP _ _ _ _ _ h Stp.refl hH den_int⟩
theorem c_len_scr {ns : List Int} (h : P (.int ns.length) M) : BC X (.builtin "len") [.scr ns] M P := bc_of call_len_seq fun G H vs hH dv Q hP => by
  obtain ⟨v, rfl, d⟩ := one_inv dv
  obtain ⟨p, rfl, g⟩ := d.scr_inv
  exact ⟨p, _, rfl, .inl (hH.sub.seq g), by rw [List.length_map]; exact hP _ _ _ _ _ h Stp.refl hH den_int⟩
theorem c_len_str {z : Str} (hl : z.length ≤ sizeLine) (h : P (.int z.length) M) : BC X (.builtin "len") [.str z] M P := bc_of call_len_str fun G H vs hH dv Q hP => by
  obtain ⟨v, rfl, d⟩ := one_inv dv
  exact ⟨z, by rw [d.str_inv], hl, hP _ _ _ _ _ h Stp.refl hH den_int⟩
theorem c_int_i {i : Int} (h : P (.int i) M) : BC X (.type "int") [.int i] M P := bc_of call_int1 fun G H vs hH dv Q hP => by
  obtain ⟨v, rfl, d⟩ := one_inv dv
  exact .inl ⟨i, by rw [d.int_inv], hP _ _ _ _ _ h Stp.refl hH den_int⟩
theorem c_int_b {k : Bool} (h : P (.int (if k then 1 else 0)) M) : BC X (.type "int") [.bl k] M P := bc_of call_int1 fun G H vs hH dv Q hP => by
  obtain ⟨v, rfl, d⟩ := one_inv dv
  exact .inr ⟨k, by rw [d.bl_inv], hP _ _ _ _ _ h Stp.refl hH den_int⟩
theorem c_min {i j : Int} (hc : X.calm = true) (h : P (.int (if j < i then j else i)) M) : BC X (.builtin "min") [.int i, .int j] M P := bc_of (call_min2 hc) fun G H vs hH dv Q hP => by
  obtain ⟨v, u, rfl, d1, d2⟩ := two_inv dv
  exact ⟨i, j, by rw [d1.int_inv, d2.int_inv], hP _ _ _ _ _ h Stp.refl hH den_int⟩
theorem c_max {i j : Int} (hc : X.calm = true) (h : P (.int (if j > i then j else i)) M) : BC X (.builtin "max") [.int i, .int j] M P := bc_of (call_max2 hc) fun G H vs hH dv Q hP => by
  obtain ⟨v, u, rfl, d1, d2⟩ := two_inv dv
  exact ⟨i, j, by rw [d1.int_inv, d2.int_inv], hP _ _ _ _ _ h Stp.refl hH den_int⟩
theorem c_sum {ns : List Int} {ds : List Dat} (hc : X.calm = true) (e : ds = ns.map Dat.int) (h : P (.int ns.sum) M) : BC X (.builtin "sum") [.lst ds] M P := bc_of (cr_sum hc) fun G H vs hH dv Q hP => by
  subst e
  obtain ⟨v, rfl, d⟩ := one_inv dv
  obtain ⟨p, us, rfl, g, dl⟩ := d.lst_inv
  rw [dl.ints] at g
  exact ⟨p, ns, rfl, SqL.of (hH.sub _ _ g), hP _ _ _ _ _ h Stp.refl hH den_int⟩
theorem c_list_lst {ds : List Dat} (h : P (.lst ds) M) : BC X (.type "list") [.lst ds] M P := bc_of call_list_of fun G H vs hH dv Q hP => by
  obtain ⟨v, rfl, d⟩ := one_inv dv
  obtain ⟨p, us, rfl, g, dl⟩ := d.lst_inv
  refine ⟨p, us, rfl, .inl (SqL.of (hH.sub _ _ g)), fun r hr => ?_⟩
  obtain ⟨s2, h2⟩ := Stp.new (o := .lst us) hH hr
  exact hP _ _ _ _ _ h s2 h2 (den_lst upd_same (dl.up s2.gg))
theorem c_list_cell {p : Addr} {ds : List Dat} (hm : (p, MC.lst ds) ∈ M) (h : P (.lst ds) M) : BC X (.type "list") [.raw (.ref p)] M P := bc_of call_list_of fun G H vs hH dv Q hP => by
  obtain ⟨v, rfl, d⟩ := one_inv dv
  obtain ⟨us, g, dl⟩ := hH.mem _ hm
  refine ⟨p, us, by rw [d.raw_inv], .inl (SqL.of g), fun r hr => ?_⟩
  obtain ⟨s2, h2⟩ := Stp.new (o := .lst us) hH hr
  exact hP _ _ _ _ _ h s2 h2 (den_lst upd_same (dl.up s2.gg))
theorem c_list_tup {ds : List Dat} (h : P (.lst ds) M) : BC X (.type "list") [.tup ds] M P := bc_of call_list_of fun G H vs hH dv Q hP => by
  obtain ⟨v, rfl, d⟩ := one_inv dv
  obtain ⟨p, us, rfl, g, dl⟩ := d.tup_inv
  refine ⟨p, us, rfl, .inr (SqT.of (hH.sub _ _ g)), fun r hr => ?_⟩
  obtain ⟨s2, h2⟩ := Stp.new (o := .lst us) hH hr
  exact hP _ _ _ _ _ h s2 h2 (den_lst upd_same (dl.up s2.gg))
theorem c_tuple_lst {ds : List Dat} (h : P (.tup ds) M) : BC X (.type "tuple") [.lst ds] M P := bc_of call_tuple_of fun G H vs hH dv Q hP => by
  obtain ⟨v, rfl, d⟩ := one_inv dv
  obtain ⟨p, us, rfl, g, dl⟩ := d.lst_inv
  refine ⟨p, us, rfl, .inl ⟨SqL.of (hH.sub _ _ g), fun r hr => ?_⟩⟩
  obtain ⟨s2, h2⟩ := Stp.new (o := .tup us) hH hr
  exact hP _ _ _ _ _ h s2 h2 (den_tup upd_same (dl.up s2.gg))
/-! isinstance -/
structure ICls (K : PySem.W.Frag) (C : Addr) : Prop where
  cl : Cls K C
  ha : PySem.W.findIn K (.ref C) "__class__" = some (some (.builtin "object.__class__"))
  hn : PySem.W.specialIn K (.builtin "object.__class__") "__get__" = some (some (.builtin "getset_descriptor.__get__"))
  tk : PySem.W.takesIn K (.builtin "object.__class__") = some true
  mr : PySem.W.mroIn K C (.type "object") = some true
/-- the type of a datum -/
inductive TyD (K : PySem.W.Frag) (M : Mem) : Dat → Value → Prop
  | non : TyD K M .non (.type "NoneType")
  | bl {k : Bool} : TyD K M (.bl k) (.type "bool")
  | int {i : Int} : TyD K M (.int i) (.type "int")
  | str {s : Str} : TyD K M (.str s) (.type "str")
  | lst {ds : List Dat} : TyD K M (.lst ds) (.type "list")
  | tup {ds : List Dat} : TyD K M (.tup ds) (.type "tuple")
  | dic0 : TyD K M .dic0 (.type "dict")
  | «at» {a : Addr} {d : Dat} {t : Value} (h : TyD K M d t) : TyD K M (.at a d) t
  | obj {C : Addr} {ns : List Str} {ds : List Dat} (h : ICls K C) : TyD K M (.obj C ns ds) (.ref C)
  | cellL {p : Addr} {ds : List Dat} (h : (p, MC.lst ds) ∈ M) : TyD K M (.raw (.ref p)) (.type "list")
  | cellI {p C dx : Addr} {fs : List (Str × Dat)} (h : (p, MC.ins C dx fs) ∈ M) (hc : ICls K C) : TyD K M (.raw (.ref p)) (.ref C)
theorem tyD_ok {K : PySem.W.Frag} {G H : Hp} {d : Dat} {t : Value} {v : V} (h : TyD K M d t) (hH : Hst K G M H) (dv : Den K G d v) : TyX K H v t := by
  induction h generalizing v with
  | «at» h ih => exact ih dv.at_inv.2
  | non => rw [dv.non_inv]; exact .base .non
  | bl => rw [dv.bl_inv]; exact .base (.bl _)
  | int => rw [dv.int_inv]; exact .base (.int _)
  | str => rw [dv.str_inv]; exact .base (.str _)
  | lst => obtain ⟨p, vs, rfl, g, _⟩ := dv.lst_inv; exact .base (.lst (hH.sub _ _ g))
  | tup => obtain ⟨p, vs, rfl, g, _⟩ := dv.tup_inv; exact .base (.tup (hH.sub _ _ g))
  | dic0 => obtain ⟨p, rfl, g⟩ := dv.dic0_inv; exact .base (.dK (hH.sub _ _ g))
  | obj h => obtain ⟨p, dx, vs, rfl, g, _⟩ := dv.obj_inv; exact .base (.ins (hH.sub _ _ g) h.cl h.ha h.hn h.tk h.mr)
  | cellL h => obtain ⟨vs, g, _⟩ := hH.mem _ h; rw [dv.raw_inv]; exact .base (.lst g)
  | cellI h hc => obtain ⟨vs, g, _⟩ := hH.mem _ h; rw [dv.raw_inv]; exact .base (.ins g hc.cl hc.ha hc.hn hc.tk hc.mr)
theorem c_isi {d : Dat} {cv : V} {t u : Value} {k : Bool} (hc : ClsV cv u) (ht : TyD X.K M d t) (hk : PySem.W.kitOne X.K t u = some k) (h : P (.bl k) M) : BC X (.builtin "isinstance") [d, .raw cv] M P := bc_of call_isi fun G H vs hH dv Q hP => by
  obtain ⟨v, w, rfl, d1, d2⟩ := two_inv dv
  rw [d2.raw_inv]
  exact ⟨v, cv, t, u, k, rfl, hc, tyD_ok ht hH d1, hk, hP _ _ _ _ _ h Stp.refl hH den_bl⟩

/-! ### data compared -/
mutual
def toPy : Dat → Option PyData
  | .non => some .none
  | .bl b => some (.bool b)
  | .int i => some (.int i)
  | .str s => some (.str s)
  | .lst xs => (toPyL xs).map PyData.list
  | .tup xs => (toPyL xs).map PyData.tuple
  | _ => none
def toPyL : List Dat → Option (List PyData)
  | [] => some []
  | d :: ds => (toPy d).bind fun x => (toPyL ds).map fun xs => x :: xs
end
mutual
theorem toPy_dp {K : PySem.W.Frag} {G H : Hp} (hs : Same G H) : ∀ (d : Dat) (v : V) (x : PyData), Den K G d v → toPy d = some x → Dp K H v x
  | .non, v, x, h, e => by rw [h.non_inv]; simp only [toPy, Option.some.injEq] at e; subst e; exact .non
  | .bl b, v, x, h, e => by rw [h.bl_inv]; simp only [toPy, Option.some.injEq] at e; subst e; exact .bl b
  | .int i, v, x, h, e => by rw [h.int_inv]; simp only [toPy, Option.some.injEq] at e; subst e; exact .int i
  | .str s, v, x, h, e => by rw [h.str_inv]; simp only [toPy, Option.some.injEq] at e; subst e; exact .str s
  | .lst ds, v, x, h, e => by
    obtain ⟨p, vs, rfl, g, dl⟩ := h.lst_inv
    simp only [toPy, Option.map_eq_some_iff] at e
    obtain ⟨xs, e1, rfl⟩ := e
    exact .lst (SqL.of (hs _ _ g)) (toPyL_dp hs ds vs xs dl e1)
  | .tup ds, v, x, h, e => by
    obtain ⟨p, vs, rfl, g, dl⟩ := h.tup_inv
    simp only [toPy, Option.map_eq_some_iff] at e
    obtain ⟨xs, e1, rfl⟩ := e
    exact .tup (SqT.of (hs _ _ g)) (toPyL_dp hs ds vs xs dl e1)
  | .raw _, _, _, _, e => by simp [toPy] at e
  | .dic0, _, _, _, e => by simp [toPy] at e
  | .scr _, _, _, _, e => by simp [toPy] at e
  | .obj _ _ _, _, _, _, e => by simp [toPy] at e
theorem toPyL_dp {K : PySem.W.Frag} {G H : Hp} (hs : Same G H) : ∀ (ds : List Dat) (vs : List V) (xs : List PyData), DenL K G ds vs → toPyL ds = some xs → DpAll K H vs xs
  | [], vs, xs, h, e => by rw [h.nil_inv]; simp only [toPyL, Option.some.injEq] at e; subst e; exact .nil
  | d :: ds, vs, xs, h, e => by
    obtain ⟨v, r, rfl, d1, t⟩ := h.cons_inv
    simp only [toPyL, Option.bind_eq_some_iff, Option.map_eq_some_iff] at e
    obtain ⟨x, e1, ys, e2, rfl⟩ := e
    exact .cons (toPy_dp hs d v x d1 e1) (toPyL_dp hs ds r ys t e2)
end
theorem o_eqD {x y : Dat} {d f : PyData} (hx : toPy x = some d) (hy : toPy y = some f) (sd : SeqAt.shaped d = true) (sf : SeqAt.shaped f = true) (hu : X.A.units + 64 < cLine) (h : P (.bl (PyData.eqv d f)) M) : OP X T (compareOp .Eq) x y M P :=
  op_of (op_eqD hu) fun G H v u hH dx dy Q hP => ⟨d, f, toPy_dp hH.sub x v d dx hx, toPy_dp hH.sub y u f dy hy, sd, sf, hP _ _ _ _ _ h Stp.refl hH den_bl⟩
theorem o_neD {x y : Dat} {d f : PyData} (hx : toPy x = some d) (hy : toPy y = some f) (sd : SeqAt.shaped d = true) (sf : SeqAt.shaped f = true) (hu : X.A.units + 64 < cLine) (h : P (.bl (!PyData.eqv d f)) M) : OP X T (compareOp .NotEq) x y M P :=
  op_of (op_neD hu) fun G H v u hH dx dy Q hP => ⟨d, f, toPy_dp hH.sub x v d dx hx, toPy_dp hH.sub y u f dy hy, sd, sf, hP _ _ _ _ _ h Stp.refl hH den_bl⟩
end
end Kh

set_option Elab.async false
set_option linter.all false
set_option maxRecDepth 100000
set_option maxHeartbeats 1000000
namespace Kh
open PySem PySem.Spec L2
section
variable {X : Cx} {T : Bool} {τ : TEnv} {M : Mem} {P : PK'} {E : XKx} {e a b c o value : Expr} {es : List Expr} {pos pos' apos tpos : Pos} {R : RK} {rest : List Stmt} {x : Str}
/-! ### cells written -/
theorem adr_split {A B : Mem} {c c' : Addr × MC} (h : adr1 c = adr1 c') : adr (A ++ c :: B) = adr (A ++ c' :: B) := by
  rw [adr_append, adr_append]
  show adr A ++ (adr1 c ++ adr B) = adr A ++ (adr1 c' ++ adr B)
  rw [h]
/-- the cell at p gets another content of the same addresses: H2 differs from H at p alone -/
theorem cell_put {K : PySem.W.Frag} {G H H2 : Hp} {A B : Mem} {p : Addr} {c c' : MC} (h : Hst K G (A ++ (p, c) :: B) H) (hc : adr1 (p, c) = adr1 (p, c')) (hp : p ∈ adr1 (p, c)) (hk : ∀ q, q ≠ p → H2 q = H q) (hn : MH K G H2 (p, c')) :
    Stp G (A ++ (p, c) :: B) H G (A ++ (p, c') :: B) H2 ∧ Hst K G (A ++ (p, c') :: B) H2 := by
  have ea : adr (A ++ (p, c) :: B) = adr (A ++ (p, c') :: B) := adr_split hc
  have hpm : p ∈ adr (A ++ (p, c) :: B) := by rw [adr_append]; exact List.mem_append_right _ (List.mem_append_left _ hp)
  have nd := h.nd
  rw [adr_append] at nd
  obtain ⟨_, nb, nab⟩ := List.nodup_append.mp nd
  have nb' : (adr1 (p, c) ++ adr B).Nodup := nb
  obtain ⟨_, _, ncb⟩ := List.nodup_append.mp nb'
  have other : ∀ d ∈ A ++ B, ∀ q ∈ adr1 d, q ≠ p := fun d hd q hq e => by
    rcases List.mem_append.mp hd with z | z
    · exact nab q (List.mem_flatMap.mpr ⟨d, z, hq⟩) p (List.mem_append_left _ hp) e
    · exact ncb p hp q (List.mem_flatMap.mpr ⟨d, z, hq⟩) e.symm
  refine ⟨⟨Same.refl _, fun q o n e => by rw [hk q (fun z => n (by rw [z]; exact hpm))]; exact e, fun _ _ _ g => g, fun q hq => .inl (by rw [ea]; exact hq)⟩, fun q o e => ?_, fun d hd => ?_, fun q hq => h.out q (by rw [ea]; exact hq), by rw [← ea]; exact h.nd⟩
  · have : q ≠ p := fun z => by rw [z, h.out p hpm] at e; cases e
    rw [hk q this]; exact h.sub q o e
  · rcases List.mem_append.mp hd with z | z
    · exact (h.mem d (List.mem_append_left _ z)).up (Same.refl _) fun q hq o e => by rw [hk q (other d (List.mem_append_left _ z) q hq)]; exact e
    · rcases List.mem_cons.mp z with rfl | z
      · exact hn
      · exact (h.mem d (List.mem_append_right _ (List.mem_cons_of_mem _ z))).up (Same.refl _) fun q hq o e => by rw [hk q (other d (List.mem_append_right _ z) q hq)]; exact e
/-- M with the cell of p put anew -/
def putC (p : Addr) (c' : MC) : Mem → Mem
  | [] => []
  | (q, c) :: M => if q = p then (p, c') :: M else (q, c) :: putC p c' M
theorem putC_split {p : Addr} {c c' : MC} : ∀ {M : Mem}, (p, c) ∈ M → ∃ A B, M = A ++ (p, (M.lookup p).getD c) :: B ∧ putC p c' M = A ++ (p, c') :: B
  | (q, d) :: M, h => by
    by_cases e : q = p
    · subst e
      exact ⟨[], M, by simp [List.lookup], by simp [putC]⟩
    · have hm : (p, c) ∈ M := by
        rcases List.mem_cons.mp h with z | z
        · cases z; exact absurd rfl e
        · exact z
      obtain ⟨A, B, h1, h2⟩ := putC_split (c' := c') hm
      have el : (List.lookup p ((q, d) :: M)) = List.lookup p M := by
        rw [List.lookup_cons, show (p == q) = false from by simpa using fun z => e z.symm]
      refine ⟨(q, d) :: A, B, ?_, ?_⟩
      · rw [el, List.cons_append, ← h1]
      · show (if q = p then _ else (q, d) :: putC p c' M) = _
        rw [if_neg e, h2]; rfl
theorem nodup_cell {K : PySem.W.Frag} {G H : Hp} {p : Addr} {c : MC} (h : Hst K G M H) (hm : (p, c) ∈ M) : M.lookup p = some c := by
  have nd := h.nd
  clear h
  induction M with
  | nil => cases hm
  | cons q M ih =>
    obtain ⟨q, d⟩ := q
    have hq : q ∈ adr1 (q, d) := by cases d <;> simp [adr1]
    have nd' : (adr1 (q, d) ++ adr M).Nodup := nd
    obtain ⟨_, n2, n3⟩ := List.nodup_append.mp nd'
    rw [List.lookup_cons]
    rcases List.mem_cons.mp hm with z | z
    · cases z; simp
    · have hp : p ∈ adr M := List.mem_flatMap.mpr ⟨_, z, by cases c <;> simp [adr1]⟩
      have : (p == q) = false := by
        cases e : p == q with
        | false => rfl
        | true =>
          have e' : p = q := by simpa using e
          exact absurd e'.symm (fun z => n3 q hq p hp z)
      rw [this]
      exact ih z n2
theorem put_ok {K : PySem.W.Frag} {G H H2 : Hp} {p : Addr} {c c' : MC} (h : Hst K G M H) (hm : (p, c) ∈ M) (hc : adr1 (p, c) = adr1 (p, c')) (hk : ∀ q, q ≠ p → H2 q = H q) (hn : MH K G H2 (p, c')) :
    Stp G M H G (putC p c' M) H2 ∧ Hst K G (putC p c' M) H2 := by
  obtain ⟨A, B, h1, h2⟩ := putC_split (c' := c') hm
  rw [nodup_cell h hm] at h1
  have h1 : M = A ++ (p, c) :: B := h1
  rw [h2]
  rw [h1] at h ⊢
  exact cell_put h hc (by cases c <;> simp [adr1]) hk hn

/-! ### methods of built-in types -/
inductive TyB (K : PySem.W.Frag) (M : Mem) : Dat → String → Prop
  | str {s : Str} : TyB K M (.str s) "str"
  | int {i : Int} : TyB K M (.int i) "int"
  | lst {ds : List Dat} : TyB K M (.lst ds) "list"
  | scr {ns : List Int} : TyB K M (.scr ns) "list"
  | cell {p : Addr} {ds : List Dat} (h : (p, MC.lst ds) ∈ M) : TyB K M (.raw (.ref p)) "list"
  | dcell {p : Addr} {kvs : List (Key × Dat)} (h : (p, MC.dic kvs) ∈ M) : TyB K M (.raw (.ref p)) "dict"
theorem tyB_ok {K : PySem.W.Frag} {G H : Hp} {d : Dat} {t : String} {v : V} (h : TyB K M d t) (hH : Hst K G M H) (dv : Den K G d v) : tyV K t v H := by
  cases h with
  | str => rw [dv.str_inv]; rfl
  | int => rw [dv.int_inv]; rfl
  | lst => obtain ⟨p, vs, rfl, g, _⟩ := dv.lst_inv; exact .inl ⟨rfl, vs, SqL.of (hH.sub _ _ g)⟩
  | scr => obtain ⟨p, rfl, g⟩ := dv.scr_inv; exact .inl ⟨rfl, _, hH.sub.seq g⟩
  | cell h => obtain ⟨vs, g, _⟩ := hH.mem _ h; rw [dv.raw_inv]; exact .inl ⟨rfl, vs, SqL.of g⟩
  | dcell h => obtain ⟨vs, g, _⟩ := hH.mem _ h; rw [dv.raw_inv]; exact .inr (.inr (.inl ⟨rfl, .inl ⟨vs, g⟩⟩))
/-- a built-in method of d, called with ds -/
def BMr (X : Cx) (id : String) (d : Dat) (ds : List Dat) (M : Mem) (P : PK') : Prop :=
  ∃ r, MtR X id r ∧ ∀ G H v vs, Hst X.K G M H → Den X.K G d v → DenL X.K G ds vs → ∀ Q, CE' X.K G M H P Q → r v vs H Q
theorem ex_bm {name : Str} {t id : String} (pa : PlainAttrs t) (slot : Slot t name id) (hty : typeOf (.builtin id) = pure (.type "method_descriptor"))
    (h : EX X T o τ M (fun d M1 => TyB X.K M1 d t ∧ EA X T (e :: es) τ M1 (fun ds M2 => BMr X id d ds M2 P) E) E)
    (hbase : attributeBase o name X.env (eval o X.env) = eval o X.env := by rfl)
    (hfew : ((backTo tpos (starEach (e :: es) X.env)).all (fun x => !x.1) && (backToKw tpos (keywordEach [] X.env)).all (fun x => x.1.isSome) && decide ((e :: es).length + ([] : List Keyword).length + (if ([] : List Keyword).isEmpty then 0 else 1) < 30)) = true := by rfl)
    (hline : (apos.endLine == tpos.line) = true := by rfl) (hs : starEach (e :: es) X.env = (false, eval e X.env) :: starEach es X.env := by rfl) (hplain : (backTo tpos (starEach es X.env)).any (·.1) = false := by rfl) :
    EX X T (.Call (.Attribute o name apos) (e :: es) [] tpos) τ M P E := by
  refine .mk ?_; intro W tk σ G H hE hH Q hP hX pins s k I
  have hA := h.run W tk σ G H hE hH (fun v H1 => tyV X.K t v H1 ∧ tWA X T (e :: es) σ H1 fun vs H2 => ∃ r, MtR X id r ∧ r v vs H2 Q) (fun d M1 v G1 H1 ⟨ht, hb⟩ s1 h1 dv =>
    ⟨tyB_ok ht h1 dv, hb.run W tk σ G1 H1 (hE.up s1.gg) h1 _ (fun ds M2 vs G2 H2 ⟨r, hr, hq⟩ s2 h2 dvs => ⟨r, hr, hq G2 H2 v vs h2 (dv.up s2.gg) dvs Q (hP.step (s1.trans s2))⟩) (hX.step s1)⟩) hX
  refine wpAny_Call_method_late hbase hfew hline rfl (thnT k (hA pins s k I) fun v s1 k1 ⟨x, H1, I1, r1, ty, q1⟩ => ?_)
  obtain ⟨h1, h2⟩ := tyV_is I1 r1 ty
  refine ⟨t, id, pa, slot, hty, h1, h2, ?_⟩
  have hA := q1 tpos pins s1 k1 I1
  rw [hs] at hA ⊢
  refine Calls.callWith_builtin (by show (false || (backTo tpos (starEach es X.env)).any (·.1)) = false; rw [hplain] <;> rfl) (Calls.evalArgs_plain ?_)
  exact thn hA fun us s2 ⟨vs, H2, I2, r2, r, hr, q2⟩ => hr pins s2 σ H2 x vs v us Q I2 r1 r2 q2
theorem ex_bm0 {name : Str} {t id : String} (pa : PlainAttrs t) (slot : Slot t name id) (hty : typeOf (.builtin id) = pure (.type "method_descriptor"))
    (h : EX X T o τ M (fun d M1 => TyB X.K M1 d t ∧ BMr X id d [] M1 P) E)
    (hbase : attributeBase o name X.env (eval o X.env) = eval o X.env := by rfl) (hline : (apos.endLine == tpos.line) = true := by rfl) :
    EX X T (.Call (.Attribute o name apos) [] [] tpos) τ M P E := by
  refine .mk ?_; intro W tk σ G H hE hH Q hP hX pins s k I
  have hA := h.run W tk σ G H hE hH (fun v H1 => tyV X.K t v H1 ∧ ∃ r, MtR X id r ∧ r v [] H1 Q) (fun d M1 v G1 H1 ⟨ht, r, hr, hq⟩ s1 h1 dv =>
    ⟨tyB_ok ht h1 dv, r, hr, hq G1 H1 v [] h1 dv .nil Q (hP.step s1)⟩) hX
  refine wpAny_Call_method0_late hbase hline (thnT k (hA pins s k I) fun v s1 k1 ⟨x, H1, I1, r1, ty, r, hr, q1⟩ => ?_)
  obtain ⟨h1, h2⟩ := tyV_is I1 r1 ty
  exact ⟨t, id, pa, slot, hty, h1, h2, Calls.callWith_builtin rfl (PySem.evalArgs_none (hr pins s1 σ H1 x [] v [] Q I1 r1 .nil q1))⟩
/-- xs.append(y), xs a cell -/
theorem b_append {q : Addr} {ds : List Dat} {y : Dat} (hm : (q, MC.lst ds) ∈ M) (hl : ds.length < sizeLine) (h : P .non (putC q (.lst (ds ++ [y])) M)) : BMr X "list.append" (.raw (.ref q)) [y] M P := by
  refine ⟨rAppend, mt_append, fun G H v vs hH dv dvs Q hP => ?_⟩
  obtain ⟨u, r, rfl, du, t⟩ := dvs.cons_inv
  obtain rfl := t.nil_inv
  obtain ⟨xs, g, dx⟩ := hH.mem _ hm
  rw [dv.raw_inv]
  obtain ⟨s2, h2⟩ := put_ok (c' := .lst (ds ++ [y])) (H2 := upd H q (.lst (xs ++ [u]))) hH hm rfl (fun b hb => upd_ne hb) ⟨_, upd_same, dx.snoc du⟩
  exact ⟨q, xs, u, rfl, rfl, g, by rw [dx.length]; exact hl, hP _ _ _ _ _ h s2 h2 den_non⟩
theorem ex_append (h : EX X T o τ M (fun d M1 => TyB X.K M1 d "list" ∧ EA X T (e :: es) τ M1 (fun ds M2 => BMr X "list.append" d ds M2 P) E) E)
    (hbase : attributeBase o "append" X.env (eval o X.env) = eval o X.env := by rfl)
    (hfew : ((backTo tpos (starEach (e :: es) X.env)).all (fun x => !x.1) && (backToKw tpos (keywordEach [] X.env)).all (fun x => x.1.isSome) && decide ((e :: es).length + ([] : List Keyword).length + (if ([] : List Keyword).isEmpty then 0 else 1) < 30)) = true := by rfl)
    (hline : (apos.endLine == tpos.line) = true := by rfl) (hs : starEach (e :: es) X.env = (false, eval e X.env) :: starEach es X.env := by rfl) (hplain : (backTo tpos (starEach es X.env)).any (·.1) = false := by rfl) :
    EX X T (.Call (.Attribute o "append" apos) (e :: es) [] tpos) τ M P E := ex_bm PySem.F.plainAttrs_list PySem.F.slot_list_append PySem.F.type_list_append h hbase hfew hline hs hplain
/-! ### o[i] = v -/
theorem ixN_len {xs ys : List α} (h : xs.length = ys.length) : ixN xs.length = ixN ys.length := by rw [h]
theorem gx_sub {i : Expr} {d : Dat} {P : TEnv → Mem → Prop} (h : EX X false o τ M (fun od M1 => EX X false i τ M1 (fun id M2 => ∃ q ds k j, od = .raw (.ref q) ∧ id = .int k ∧ (q, MC.lst ds) ∈ M2 ∧ ixN ds.length k = some j ∧ P τ (putC q (.lst (ds.set j d)) M2)) E) E)
    (ha : ∀ v, assign (.Subscript o i pos) X.env v = (do
      let ov ← holding [v] (eval o X.env)
      let iv ← holding [v, ov] (eval i X.env)
      standAt pos
      holding [v, ov, iv] (setItem ov iv v)
      release [v, ov, iv] []) := by intro _; rfl) : GX X T (.Subscript o i pos) d τ M P E := .mk fun W tk σ G H v hE hH dv Q hP hX => by
  refine tWG_of (pg_sub (pe_W (e := o)) (pe_W (e := i)) set_list ha) ?_
  refine h.run W tk σ G H hE hH _ ?_ hX
  intro od M1 ov G1 H1 hi s1 h1 dov
  refine hi.run W tk σ G1 H1 (hE.up s1.gg) h1 _ ?_ (hX.step s1)
  rintro id M2 iv G2 H2 ⟨q, ds, k, j, rfl, rfl, hm, hj, hp⟩ s2 h2 div
  obtain ⟨xs, g, dx⟩ := h2.mem _ hm
  obtain ⟨s3, h3⟩ := put_ok (c' := .lst (ds.set j d)) (H2 := upd H2 q (.lst (xs.set j v))) h2 hm rfl (fun b hb => upd_ne hb) ⟨_, upd_same, dx.set (dv.up (s1.trans s2).gg) j⟩
  exact ⟨q, xs, k, j, (dov.up s2.gg).raw_inv, div.int_inv, g, by rw [dx.length]; exact hj, hP _ _ _ _ _ hp ((s1.trans s2).trans s3) h3 ((hE.up (s1.trans s2).gg).up s3.gg)⟩
/-! ### a new list that may change -/
theorem ex_lstC (h : EA X T es τ M (fun ds M1 => ds.length ≤ sizeLine ∧ ∀ q, q ∉ adr M1 → P (.raw (.ref q)) ((q, .lst ds) :: M1)) E) : EX X T (.List es pos) τ M P E := by
  refine .mk ?_; intro W tk σ G H hE hH Q hP hX
  refine v_lst ?_
  refine h.run W tk σ G H hE hH _ ?_ hX
  intro ds M1 vs G1 H1 ⟨hl, hp⟩ s1 h1 dvs
  refine ⟨by rw [dvs.length]; exact hl, fun p hp' => ?_⟩
  have nM : p ∉ adr M1 := fun z => h1.there p z hp'
  have ha : adr ((p, MC.lst ds) :: M1) = p :: adr M1 := rfl
  have kp : ∀ b o, H1 b = some o → (upd H1 p (.lst vs)) b = some o := fun b o e => by rw [upd_ne (ne_of_none e hp')]; exact e
  refine hP _ _ _ _ _ (hp p nM) (s1.trans ⟨Same.refl _, fun b o _ e => kp b o e, fun _ _ _ g => g, fun b hb => ?_⟩) ⟨fun b o e => kp b o (h1.sub b o e), fun c hc => ?_, fun b hb => ?_, ?_⟩ den_raw
  · rw [ha] at hb
    rcases List.mem_cons.mp hb with rfl | hb
    · exact .inr hp'
    · exact .inl hb
  · rcases List.mem_cons.mp hc with rfl | hc
    · exact ⟨vs, upd_same, dvs⟩
    · exact (h1.mem c hc).up (Same.refl _) fun b hb o e => kp b o e
  · rw [ha] at hb
    rcases List.mem_cons.mp hb with rfl | hb
    · exact h1.sub.free hp'
    · exact h1.out b hb
  · rw [ha]
    exact List.nodup_cons.mpr ⟨nM, h1.nd⟩
end
end Kh

set_option Elab.async false
set_option linter.all false
set_option maxRecDepth 100000
set_option maxHeartbeats 4000000
namespace Kh
open PySem PySem.Spec L2
open PySem.W PySem.Calls PyProof.Rows PySem.HandSPX

/-! ### an own exception class whose __init__ says super().__init__(v); self.f = v -/
abbrev supBody (ns f : Str) (p0 p1 p2 p3 p4 p5 p6 p7 p8 p9 : Pos) : List Stmt :=
  [.Expr (.Call (.Attribute (.Call (.Name "super" p0) [] [] p1) "__init__" p2) [.Name ns p3] [] p4) p5, .Assign [.Attribute (.Name "self" p6) f p7] (.Name ns p8) p9]
structure SupX (P : Program) (K : Frag) (C fI : Addr) (ns f : Str) : Prop where
  T : OexC K C
  iC : findIn K (.ref C) "__init__" = some (some (.ref fI))
  tI : typeIn K (.ref fI) = some (.type "function")
  nf : findIn K (.ref C) f = some none
  al : ks_superIn K C C "__init__" = some (some (.builtin "ValueError.__init__"))
  sV : subIn K (.ref C) (.type "ValueError") = some true
  sC : mroIn K C (.ref C) = some true
  op : nsIn K cStatics "thirdparty.any" = some none
  tp : (P.main.scope.names.lookup ("super" : Str)).isSome = false
  fn : ∃ (oc : Value) (od : Option Addr) (osl : Array (Option Value)) (name qual : Str) (params : Arguments) (scope : Scope) (dV kV doc pm : Value) (an : Option Addr) (cda : Addr) (ct : Value) (cc : Addr) (p0 p1 p2 p3 p4 p5 p6 p7 p8 p9 : Pos) (ar : Arg)
      (ccl : Value) (cdd : Option Addr) (vs : Array Value) (ccs : Array (Option Value)) (file : Str) (tf : Tok) (cl : Value) (cld : Option Addr) (csl : Array (Option Value)),
    K.lookup fI = some ⟨oc, od, .func (ksFn name qual params (supBody ns f p0 p1 p2 p3 p4 p5 p6 p7 p8 p9) scope dV kV doc pm an (.ref cda) ct cc), osl⟩ ∧ codeIn K (.ref cda) qual = true ∧
    (params.posonlyargs ++ params.args).head? = some ar ∧ ar.arg = "self" ∧ scope.kind = .function ∧ scope.isGenerator = false ∧ scope.isCoroutine = false ∧ (∀ x ∈ scope.names, x.2 ≠ .cell) ∧
    scope.names.lookup ("super" : Str) = some .globalImplicit ∧ scope.names.lookup ("__class__" : Str) = some .free ∧ scope.names.lookup ("self" : Str) = some .local ∧ scope.names.lookup ns = some .local ∧
    K.lookup cda = some ⟨ccl, cdd, .fields vs, ccs⟩ ∧ vs[2]? = some (.str file tf) ∧ ((P.main.file : Str) == file) = true ∧ K.lookup cc = some ⟨cl, cld, .cell (some (.ref C)), csl⟩ ∧
    Binds K (ksFn name qual params (supBody ns f p0 p1 p2 p3 p4 p5 p6 p7 p8 p9) scope dV kV doc pm an (.ref cda) ct cc) ["self", ns] [] ∧
    (∀ env : Env, ∃ pl : Sem Bool, eval (.Call (.Attribute (.Call (.Name "super" p0) [] [] p1) "__init__" p2) [.Name ns p3] [] p4) env = (do
      let ov ← attributeBase (.Call (.Name "super" p0) [] [] p1) "__init__" env (eval (.Call (.Name "super" p0) [] [] p1) env)
      standAt p2.atName
      let (f, first) ← holding [ov] (getMethod ov "__init__" pl)
      callWith p4 f first (backTo p4 (starEach [.Name ns p3] env)) []))
  ne : (ns == ("self" : Str)) = false
  nd : (ns == ("__debug__" : Str)) = false

section
variable {prog : Program} {w : World} {A : Around} {E : Value → Shared → Prop} {h : Heap} {g : Array GenState} {d : Drawn} {t : Nat} {os : OsState}
variable {nm q : Str} {C N : Addr} {bs bm : List Value} {hdct : Bool} {sn : List Str} {sub : List Value} {ab : Bool} {col : Option Bool} {dd : Option Addr} {k0 k1 k2 k3 k5 : Option Value}
theorem call_mw {u e t0 : Addr} {rest : List Value} {Q : Value → Shared → Prop}
    (hC : h.get? C = some (excClassObj nm q C N bs bm hdct sn sub ab col dd k0 k1 k2 k3 k5 "ValueError.__new__")) (he : h.get? e = some (HandSPX.excO C t0)) (hu : h.get? u = some (kxs_mw "ValueError.__init__" e)) (hrest : rest.length ≤ sizeLine)
    (hq : ∀ h' t1, (∀ b o, b ≠ e → h.get? b = some o → h'.get? b = some o) → h'.get? e = some (HandSPX.excO C t1) → Q .none ⟨h', g, d, t, os⟩) :
    wpAny (model prog w) A (call (.ref u) rest) Q E ⟨h, g, d, t, os⟩ := by
  refine wpAny_call (codeAny_of_tree ?_)
  show wpAny _ A.in1 (callAny (.ref u) ⟨rest, []⟩) _ _ _
  simp only [callAny]
  refine wpAny_bind (wpAny_load hu ?_)
  simp only [kxs_mw, show (Value.type "method-wrapper" == Value.type "method" || Value.type "method-wrapper" == Value.type "builtin_function_or_method" || Value.type "method-wrapper" == Value.type "method-wrapper") = true by decide, if_true]
  refine W.KFB.if_so (by decide) ?_
  refine wpAny_bind (check_bound_init F.excBase_ValueError.toExcCallFacts hC he rfl ?_)
  refine wpAny_bind (wpAny_pure (wpAny_pure ?_))
  refine ⟨Code.quiet_builtin _ (by decide +kernel), codeAny_builtin F.excBase_ValueError.initEntry ?_⟩
  rw [Around.under_plainId F.excBase_ValueError.init.plain _]
  wp_walk
  refine hq _ h.objs.size (fun b o hb ho => ?_) ?_
  · rw [Heap.get?_update_other _ _ (Ne.symm hb)]
    exact Heap.get?_push_of_some _ ho
  · rw [Heap.get?_update_self _ (Heap.get?_push_of_some _ he) rfl]
    rfl
end
/-- what __init__ leaves of a fresh exception at x -/
structure InitEnd (h h' : Heap) (x C dx t1 : Addr) (f : Str) (v : Value) : Prop where
  keep : ∀ b o, b ≠ x → h.get? b = some o → h'.get? b = some o
  obj : h'.get? x = some { cls := .ref C, dict := some dx, data := .fields #[.ref t1, .none, .none, .none, .bool false, .none] }
  dbig : h.objs.size ≤ dx
  dne : dx ≠ x
  ns : h'.Ns1 dx (fun y => if y = f then some v else none)
structure OwnMade (h h' : Heap) (e C d : Addr) (f : Str) (v : Value) : Prop where
  keep : ∀ b o, h.get? b = some o → h'.get? b = some o
  new : h.objs.size ≤ e
  obj : ∃ oe vs, h'.get? e = some oe ∧ oe.cls = .ref C ∧ oe.dict = some d ∧ oe.data = .fields vs ∧ vs[1]? = some .none
  dbig : h.objs.size ≤ d
  dne : d ≠ e
  ns : h'.Ns1 d (fun y => if y = f then some v else none)
section
variable {prog : Program} {w : World} {A : Around} {E : Value → Shared → Prop} {R : Result → Shared → Prop} {s : Shared} {K : Frag} {mg mb : Str → Option Value} {C fI : Addr} {ns f : Str}
theorem sup_init (T : SupX prog K C fI ns f) {x t0 : Addr} {v : Value} (X : K.In s.heap) (hlim : s.heap.NoLimit) (hx : s.heap.get? x = some (excO C t0)) (hnx : K.lookup x = none) (hroom : A.depth < recursionLimit)
    (hg : s.heap.Ns mainGlobals mg) (hm : mg "super" = none) (hb : s.heap.Ns builtinsNs mb) (hbs : mb "super" = bootBuiltins "super")
    (hq : ∀ h' tk dx t1, InitEnd s.heap h' x C dx t1 f v → R (.ok (.ret .none)) { s with heap := h', toks := tk }) :
    codeAny (model prog w) A (.call (.ref fI) ⟨[.ref x, v], []⟩) R s := by
  obtain ⟨oc, od, osl, name, qual, params, scope, dV, kV, doc, pm, an, cda, ct, cc, p0, p1, p2, p3, p4, p5, p6, p7, p8, p9, ar, ccl, cdd, vs, ccs, file, tf, cl, cld, csl, ho, hcd, hp, har, hk, hgen, hco, hcell, ks, kc, kse, kn, hcode, hvs, hfile, hcc, hbn, hev⟩ := T.fn
  obtain ⟨nm, q, N, bs, bm, sn, sub, ab, col, dd, k0, k1, k2, k3, k5, hC, hbm⟩ := T.T.cls
  have hcl : clsIn K C = some { name := nm, bases := bs, mro := .ref C :: bm, ns := N, qualname := q, hasDict := true, slotNames := sn, subclasses := sub, abstract := ab, collection := col, hasDel := false } := by unfold clsIn; rw [hC] <;> rfl
  refine ks_codeAny_call_defAt (fd := ksFn name qual params (supBody ns f p0 p1 p2 p3 p4 p5 p6 p7 p8 p9) scope dV kV doc pm an (.ref cda) ct cc) (binds := [("self", .ref x), (ns, v)]) hroom (X _ _ ho) rfl hlim (codeRec_of X hcd) rfl
    (hbn s [.ref x, v] X rfl) hcell (fun y hy => ?_) (fun h₁ hns k => ?_) hco hgen hk
  · rcases List.mem_cons.mp hy with rfl | hy
    · exact kse
    · rcases List.mem_cons.mp hy with rfl | hy
      · exact kn
      · cases hy
  have X₁ : K.In h₁ := X.keeps k
  have hx₁ := k _ _ hx
  have e1 : List.lookup ns ([(("self" : Str), Value.ref x), (ns, v)].reverse) = some v := by simp [List.lookup]
  have e2 : List.lookup ("self" : Str) ([(("self" : Str), Value.ref x), (ns, v)].reverse) = some (.ref x) := by
    have n2 : (("self" : Str) == ns) = false := by
      have := T.ne
      cases z : (("self" : Str) == ns) with
      | false => rfl
      | true =>
        have z2 : ("self" : Str) = ns := by simpa using z
        rw [← z2] at this
        simp at this
    show List.lookup ("self" : Str) [(ns, v), (("self" : Str), Value.ref x)] = _
    rw [List.lookup_cons, n2]
    simp [List.lookup]
  obtain ⟨hh, gs, dr, tk, os⟩ := s
  have I₁ : InstAt h₁ x (excO C t0) C none := ⟨hx₁, rfl, rfl, trivial⟩
  have hCd : clsIn K C = some _ := hcl
  have hxC : x ≠ C := fun z => by rw [z, hC] at hnx; cases hnx
  obtain ⟨pl, hev⟩ := hev (ksEnv qual scope hh.objs.size fI (.ref cda) cc)
  refine ks_wpAt_execs_cons (ks_wpAt_Expr_any (ks_wpAt_MethodCall ?_ hev) (by show (scope.kind == .module && _) = false; rw [hk]; rfl) (by rfl))
  refine ks_wpAt_super_base (env := ksEnv qual scope hh.objs.size fI (.ref cda) cc) ks kc (by decide) rfl (X₁ _ _ ho) rfl hp rfl (X₁ _ _ hcode) rfl hvs hfile T.tp ?_
  refine ks_loadName_global hk ks (loadGlobal_builtin (env := ksEnv qual scope hh.objs.size fI (.ref cda) cc) (hg.keeps k) hm (hb.keeps k) (hbs.trans Boot.«super») ⟨rfl, ?_⟩)
  refine wpAny_loadName_free hk kc rfl ⟨_, X₁ _ _ hcc, rfl⟩ ?_
  rw [har]
  refine wpAny_loadName_local hk kse hns e2 ?_
  refine ks_wpAny_isType_cls (X₁ _ _ hC) rfl ⟨rfl, ?_⟩
  refine ks_wpAny_call_super (X₁ _ _ hC) rfl hx₁ rfl (fun c e => by cases e) (looks_mroIn X₁ T.sC) (fun h₂ hso k₂ => ?_)
  have X₂ : K.In h₂ := X₁.keeps k₂
  have hx₂ := k₂ _ _ hx₁
  have I₂ : InstAt h₂ x (excO C t0) C none := ⟨hx₂, rfl, rfl, trivial⟩
  have al := T.al
  unfold ks_superIn at al
  rw [hcl] at al
  refine kxs_getMethod kxs_ValueError hso (looks_opaque X₂ T.op) (l₀ := .ref C :: bm) ?_ rfl X₂ al (I₂.type.andThen (looks_subIn X₂ T.sV)) hxC (by decide) ?_
  · exact fun A Q E s k q => wpAny_bind ((looks_clsIn X₂ hcl) A _ E s k (wpAny_pure q))
  refine kxs_callWith (i := "ValueError.__init__") (x := x) (by rfl) (Calls.evalArgs_plain (Calls.spliced_cons ?_))
  have k₃ : ∀ b o, h₂.get? b = some o → (h₂.push (kxs_mw "ValueError.__init__" x)).get? b = some o := fun b o e => Heap.get?_push_of_some _ e
  have hns₃ := (hns.keeps k₂).keeps k₃
  refine wpAny_Name (wpAny_loadName_local hk kn hns₃ e1 (Calls.spliced_nil ⟨Heap.get?_push_at rfl rfl, ?_⟩)) T.nd
  refine call_mw ((X₂.keeps k₃) _ _ hC) (k₃ _ _ hx₂) (Heap.get?_push_at rfl rfl) (by show 1 ≤ sizeLine; decide) (fun h₄ t1 k₄ hx₄ => ?_)
  have kk : ∀ b o, b ≠ x → h₁.get? b = some o → h₄.get? b = some o := fun b o nb e => k₄ b o nb (k₃ _ _ (k₂ _ _ e))
  have neL : hh.objs.size ≠ x := fun z => absurd (Heap.lt_size hx) (by rw [z]; exact Nat.lt_irrefl _)
  have hns₄ : h₄.Ns hh.objs.size (fun y => List.lookup y ([(("self" : Str), Value.ref x), (ns, v)].reverse)) := by
    obtain ⟨o, es, ep, a1, r⟩ := hns
    exact ⟨o, es, ep, kk _ _ neL a1, r⟩
  have X₄ : K.In h₄ := fun b o e => kk b o (fun z => by rw [z, hnx] at e; cases e) (X₁ _ _ e)
  refine ks_wpAt_execs_cons (ks_wpAt_Assign_Attr ?_ (by rfl))
  refine wpAt_of_wpAny (wpAny_Name (wpAny_loadName_local hk kn hns₄ e1 ?_) T.nd)
  refine wpAny_Name (wpAny_loadName_local hk kse hns₄ e2 ?_) (by decide)
  refine set_plain X₄ (ox := excO C t1) (od := none) ⟨hx₄, rfl, rfl, trivial⟩ T.T.sa ?_
  refine exc_osa X₄ hx₄ hcl (show refsVE (.ref C :: bm) = true from hbm) rfl T.nf (fun h₅ tk₅ dx k₅ dn dne hx₅ hn₅ => ?_)
  have z : hh.objs.size ≤ h₄.objs.size := by
    obtain ⟨o, es, ep, a1, r⟩ := hns₄
    exact Nat.le_of_lt (Heap.lt_size a1)
  refine wpAt_of_wpAny (wpAny_execs_nil (hq h₅ tk₅ dx t1 ⟨fun b o nb e => k₅ b o nb (kk b o nb (k b o e)), hx₅, Nat.le_trans z dn, dne, hn₅⟩))
theorem sup_made (T : SupX prog K C fI ns f) {v : Value} (X : K.In s.heap) (hlim : s.heap.NoLimit) (hroom : A.depth + 1 < recursionLimit)
    (hg : s.heap.Ns mainGlobals mg) (hm : mg "super" = none) (hb : s.heap.Ns builtinsNs mb) (hbs : mb "super" = bootBuiltins "super")
    (hq : ∀ h' tk e d, OwnMade s.heap h' e C d f v → R (.ok (.ret (.ref e))) { s with heap := h', toks := tk }) :
    codeAny (model prog w) A (.call (.ref C) ⟨[v], []⟩) R s := by
  obtain ⟨nm, q, N, bs, bm, sn, sub, ab, col, dd, k0, k1, k2, k3, k5, hC, hbm⟩ := T.T.cls
  obtain ⟨hp, gs, dr, tk, os⟩ := s
  have k : ∀ b o, hp.get? b = some o → ((hp.push (kdv_tup [v])).push (excO C hp.objs.size)).get? b = some o := fun b o e => Heap.get?_push_of_some _ (Heap.get?_push_of_some _ e)
  have hget : ((hp.push (kdv_tup [v])).push (excO C hp.objs.size)).get? (hp.objs.size + 1) = some (excO C hp.objs.size) := by heap_get
  have hnx : K.lookup (hp.objs.size + 1) = none := by
    cases e : K.lookup (hp.objs.size + 1) with
    | none => rfl
    | some o =>
      have z : hp.get? (hp.objs.size + 1) = some o := X _ _ e
      exact absurd (Nat.lt_of_succ_lt (Heap.lt_size z)) (Nat.lt_irrefl _)
  refine call_own F.excBase_ValueError (fun X => refsVE_contains X bm hbm) (X _ _ hC) (looks_findIn X T.iC) (fun self => bind_fn X self T.tI) (by show 1 ≤ sizeLine; decide) ?_
  refine sup_init (s := ⟨(hp.push (kdv_tup [v])).push (excO C hp.objs.size), gs, dr, tk, os⟩) T (X.keeps k) (hlim.keeps k) hget hnx ?_ (hg.keeps k) hm (hb.keeps k) hbs fun h' tk' dx t1 ⟨k', hx, dn, dne, hns⟩ => ?_
  · show A.depth + 1 < recursionLimit
    exact hroom
  · have old : ∀ b o, hp.get? b = some o → h'.get? b = some o := fun b o e => k' b o (Nat.ne_of_lt (Nat.lt_succ_of_lt (Heap.lt_size e))) (k b o e)
    have z : hp.objs.size + 1 + 1 ≤ dx := by
      first
        | (simpa only [Heap.size_push] using dn)
        | exact dn
        | (have q := dn; rw [Heap.size_push, Heap.size_push] at q; exact q)
    exact ⟨rfl, hq h' tk' (hp.objs.size + 1) dx ⟨old, Nat.le_succ _, ⟨_, _, hx, rfl, rfl, rfl, rfl⟩, Nat.le_trans (Nat.le_trans (Nat.le_succ _) (Nat.le_succ _)) z, dne, hns⟩⟩
end
end Kh
namespace Kh
open PySem PySem.Spec L2
theorem relO_one {f : Str} {v : V} {v' : Value} (r : RelV v v') (g : Str) : RelO (List.lookup g [(f, v)]) (if g = f then some v' else none) := by
  by_cases hw : g = f
  · subst hw
    rw [if_pos rfl]
    have q : List.lookup g [(g, v)] = some v := by simp [List.lookup]
    rw [q]
    exact r
  · rw [if_neg hw]
    have qw : (g == f) = false := by simpa using hw
    have q2 : List.lookup g [(f, v)] = none := by simp [List.lookup, qw]
    rw [q2]
    trivial
section
variable {X : Cx} {C fI : Addr} {ns f : Str}
/-- C(e) -/
def tMkS (C : Addr) (f : Str) (ta : TA) : L2.St → Hp → XK → Prop := fun σ H Q => ta σ H fun vs H1 => ∃ v, vs = [v] ∧ ∀ d, H1 d = none → Q (.ref C) (some d) (upd H1 d (.xd [(f, v)]))
theorem pmk_sup {a : Expr} {ta : TA} {x : Str} {p pos : Pos} {k : Nat} (T : SupX X.prog X.K C fI ns f) (gC : X.mg x = some (.ref C)) (hms : X.mg "super" = none) (hr : Room k X.A) (ha : PA X [a] ta) (hg : Gl X x) (hdb : (x == ("__debug__" : Str)) = false := by decide)
    (he : starEach (a :: []) X.env = (false, eval a X.env) :: starEach [] X.env := by rfl) (hpl : (backTo pos (starEach [] X.env)).any (·.1) = false := by rfl) :
    PMk X (.Call (.Name x p) [a] [] pos) (tMkS C f ta) := by
  intro pins s σ H Q I h
  refine wpAny_Call_Name_kw (ld_glob I hg gC ?_ hdb)
  refine PySem.W.callWith_K (h₀ := X.base) I.ok.mod.kin T.T.kC (thn (ha.run pos pins s σ H _ I h) fun us s1 hh => ?_) he hpl
  obtain ⟨vs, H1, I1, r1, v, ev, q1⟩ := hh
  subst ev
  refine ⟨I1.kIn, ?_⟩
  cases r1 with
  | cons rv rn =>
    rename_i v' us'
    cases rn
    show wpAny _ _ (call (.ref C) [v']) _ _ _
    have hlim := I1.nolimit
    have hgl := I1.mod.glob.keeps I1.bk
    obtain ⟨mb, hb1, hb2⟩ := I1.mod.blt
    have hbl := hb1.keeps I1.bk
    obtain ⟨hp, g, dr, tk, os⟩ := s1
    refine wpAny_call (sup_made T I1.kIn hlim (by have := hr.dp; omega) hgl hms hbl (hb2 _ (by decide)) fun h' tk' e d M => ?_)
    show MkP X pins σ Q (.ref e) ⟨h', g, dr, tk', os⟩
    obtain ⟨oe, fv, hoe, hc, hd, hdat, h1⟩ := M.obj
    have hns := M.ns
    obtain ⟨G', g1, g2⟩ := restrict h' fun b => decide (b ≠ e)
    have gk : ∀ b, b ≠ e → G'.get? b = h'.get? b := fun b hb => g1 b (decide_eq_true hb)
    have ge : G'.get? e = none := g2 e (by simp)
    have old : ∀ b o, hp.get? b = some o → G'.get? b = some o := fun b o q => (gk b (Nat.ne_of_lt (Nat.lt_of_lt_of_le (Heap.lt_size q) M.new))).trans (M.keep b o q)
    have ob : ObjOk X.prog X.w (upd H1 d (.xd [(f, v)])) G' d (.xd [(f, v)]) :=
      ⟨_, hns.at (fun o q => (gk d M.dne).trans q), fun g => relO_one rv g⟩
    have J : Inv X pins σ (upd H1 d (.xd [(f, v)])) ⟨G', g, dr, tk', os⟩ := I1.laid (t' := tk') old M.dbig ob
    refine ⟨e, oe, fv, ⟨G', g, dr, tk', os⟩, _, .ref C, some d, rfl, J, fun b o q => ?_, ge, hoe, ⟨hc, hd⟩, hdat, h1, ?_, rfl, I1.bare, raises_own T.T.exC T.T.tyC, q1 d (I1.hok.fresh M.dbig)⟩
    · by_cases hb : b = e
      · have q' : G'.get? b = some o := q
        rw [hb, ge] at q'; cases q'
      · exact (gk b hb).symm.trans q
    · rw [upd_ne (Ne.symm M.dne)]
      exact I1.hok.fresh M.new
end
section
variable {X : Cx} {T : Bool} {τ : TEnv} {M : Mem} {P : PK'} {E : XKx} {e a b c : Expr} {es : List Expr} {pos p pos2 : Pos} {R : RK} {rest : List Stmt} {x n f ns : Str} {C fI : Addr} {k : Nat}
/-- raise C(e) -/
theorem ws_raise (hc : X.calm = true) (S : SupX X.prog X.K C fI ns f) (gC : X.mg x = some (.ref C)) (hms : X.mg "super" = none) (hr : Room k X.A)
    (h : EX X false e τ M (fun d M1 => R (.ex ⟨C, [f], [d]⟩ τ) M1) (fun y M1 => R (.ex y τ) M1)) (hg : Gl X x := by rfl) (hdb : (x == ("__debug__" : Str)) = false := by decide)
    (he : starEach (e :: []) X.env = (false, eval e X.env) :: starEach [] X.env := by rfl) (hpl : (backTo pos (starEach [] X.env)).any (·.1) = false := by rfl) :
    WS X T (.Raise (some (.Call (.Name x p) [e] [] pos)) none pos2 :: rest) τ M R := .mk fun W tk σ G H hE hH D hR => by
  refine ws_step (ps_raise hc tk (pmk_sup (ta := tWA X false [e]) S gC hms hr pa_W hg hdb he hpl)) ?_
  refine wa_cons (Q := fun vs H1 => ∃ v, vs = [v] ∧ ∀ d, H1 d = none → W (.ref C) (some d) σ (upd H1 d (.xd [(f, v)]))) he ?_
  refine h.run W tk σ G H hE hH _ ?_ (ex_out hR hE)
  intro d M1 v G1 H1 hp s1 h1 dv
  refine tWA_of pa_nil ?_
  refine ⟨v, rfl, fun dd hd => ?_⟩
  obtain ⟨s2, h2⟩ := Stp.new (o := .xd [(f, v)]) h1 hd
  exact hR _ _ _ _ hp (s1.trans s2) h2 σ (some dd) ((hE.up s1.gg).up s2.gg) (.inr ⟨dd, [v], rfl, upd_same, .cons (dv.up s2.gg) .nil⟩)
/-- the ends of an except suite: its name goes -/
def suiteR (i : Nat) (k : TEnv → Mem → Prop) (R : RK) : RK
  | .nx τ, M => k (τ.set i none) M
  | .ct τ, M => R (.ct (τ.set i none)) M
  | .bk τ, M => R (.bk (τ.set i none)) M
  | .rt d, M => R (.rt d) M
  | .ex _ _, _ => False
/-- the ends of a try's body -/
def tryR (X : Cx) (c : Value) (i : Nat) (b₀ : Stmt) (suite : List Stmt) (k : TEnv → Mem → Prop) (R : RK) : RK
  | .nx τ, M => k τ M
  | .ex x τ, M => ∃ b, PySem.W.exmOne X.K (.ref x.C) c = some b ∧ (b = true → x.ns ≠ [] ∧ ∀ a dd oe pn, Zc (.ref x.C) (some dd) oe → (∃ vs, oe.data = .fields vs) → WS (X.suite a ((a, oe) :: pn)) false (b₀ :: suite) (τ.set i (some (.xn a dd x.ns x.ds))) M (suiteR i k R)) ∧ (b = false → R (.ex x τ) M)
  | o, M => R o M
/-- try: body, except x as n: suite -/
theorem ws_try {body suite : List Stmt} {b₀ : Stmt} {np pos' : Pos} {c : Value} (hs : X.stack = X.env :: X.outer) (hf : X.env.frame = some X.env.locals) (hc : Names X x c)
    (h : ∀ pn xe, PassesOwn (model X.prog X.w) X.A X.env xe → WS (X.tr pn xe) false body τ M (tryR X c (ixIn X.N n) b₀ suite (fun τ' M' => WS X T rest τ' M' R) R))
    (hi : X.N[ixIn X.N n]? = some n := by rfl) (hN : X.N.Nodup := by first | decide +kernel | exact of_decide_eq_true (by kernel_rfl)) (hln : X.env.kindOf n = some .local := by rfl) :
    WS X T (.Try body [.ExceptHandler (some (.Name x np)) (some n) (b₀ :: suite) pos'] [] [] pos :: rest) τ M R := .mk fun W tk σ G H hE hH D hR => tWSs_len fun hl => by
  have hlt : ixIn X.N n < σ.length := by rw [hl]; exact (List.getElem?_eq_some_iff.mp hi).1
  refine ws_step (ps_try_as (i := ixIn X.N n) (tb := fun W D σ H => ∀ pn xe, Takes (X.tr pn xe) W → PassesOwn (model X.prog X.w) X.A X.env xe → tWSs (X.tr pn xe) false body D σ H)
    (ts := fun a cls d D σ H => ∀ oe pn, Zc cls d oe → (∃ vs, oe.data = .fields vs) → tWSs (X.suite a ((a, oe) :: pn)) false (b₀ :: suite) D σ H) hs hf hN hi hln hc tk
    (fun W pn xe tk po => ⟨fun pins s σ H D I h => h pn xe tk po pins s tk_f I⟩) (fun a oe cls d pn hz hv => ⟨fun pins s σ H D I h => h oe pn hz hv pins s tk_f I⟩)) ?_
  intro pn xe tk2 po
  refine (h pn xe po).run _ tk2 σ G H hE hH _ ?_
  intro o M2 G2 H2 r s2 h2
  cases o with
  | nx τ' => exact fun σ' hE' => r.run W tk σ' G2 H2 hE' h2 D (hR.step s2)
  | rt d => exact hR _ _ _ _ r s2 h2
  | bk τ' => exact hR _ _ _ _ r s2 h2
  | ct τ' => exact hR _ _ _ _ r s2 h2
  | ex y τ' =>
    intro σ' d hE' dx
    obtain ⟨b, hb, h1, h0⟩ := r
    refine ⟨b, hb, fun e => ?_, fun e => hR _ _ _ _ (h0 e) s2 h2 σ' d hE' dx⟩
    obtain ⟨hns, h1⟩ := h1 e
    intro a ha oe pn hz hv
    rcases dx with ⟨z, _⟩ | ⟨dd, vs, rfl, hg, dv⟩
    · exact absurd z hns
    · refine fun pins s kt I => ?_
      have hl2 := I.len
      have hlt2 : ixIn X.N n < σ'.length := by
        have : (σ'.set (ixIn X.N n) (some (.ref a))).length = X.N.length := hl2
        rw [List.length_set] at this
        rw [this]; exact (List.getElem?_eq_some_iff.mp hi).1
      refine (h1 a dd oe pn hz hv).run _ takes0 (σ'.set (ixIn X.N n) (some (.ref a))) G2 H2 (hE'.set hlt2 (by simp only [Den, true_and]; exact ⟨vs, hg, dv⟩)) h2 _ ?_ pins s kt I
      intro o M3 G3 H3 r3 s3 h3
      cases o with
      | nx τ3 => exact fun σ3 e3 => r3.run W tk _ G3 H3 e3.unset h3 D (hR.step (s2.trans s3))
      | rt d => exact fun v dv => hR _ _ _ _ r3 (s2.trans s3) h3 v dv
      | bk τ3 => exact fun σ3 e3 => hR _ _ _ _ r3 (s2.trans s3) h3 _ e3.unset
      | ct τ3 => exact fun σ3 e3 => hR _ _ _ _ r3 (s2.trans s3) h3 _ e3.unset
      | ex z τ3 => exact r3.elim
/-- err.f in the suite -/
theorem ex_ev {a dd : Addr} {oe : Obj} {pn : List (Addr × Obj)} {xns : List Str} {ds : List Dat} {z : Dat} (Tx : XfC X.K C) (hno : PySem.W.findIn X.K (.ref C) f = some none) (hz : Zc (.ref C) (some dd) oe) (hv : ∃ vs, oe.data = .fields vs)
    (ht : X.N[ixIn X.N n]? = some n ∧ τ[ixIn X.N n]? = some (some (.xn a dd xns ds))) (hl : (xns.zip ds).lookup f = some z) (h : P z M) (hvis : Vis X.env.scope n := by first | exact Or.inl rfl | exact Or.inr (Or.inl rfl) | exact Or.inr (Or.inr rfl))
    (hd : (n == ("__debug__" : Str)) = false := by decide) (hcd : (n == ("__classdict__" : Str)) = false := by decide) (hb : attributeBase (.Name n p) f X.env (eval (.Name n p) X.env) = eval (.Name n p) X.env := by rfl) :
    EX (X.suite a ((a, oe) :: pn)) T (.Attribute (.Name n p) f pos) τ M P E := .mk fun W tk σ G H hE hH Q hP hX => by
  obtain ⟨v, h1, h2⟩ := hE _ _ ht.2
  obtain ⟨vs, rfl, g1, g2⟩ := h2.xn_inv
  obtain ⟨u, l1, l2⟩ := denL_lookup g2 hl
  have q := pe_xf Tx hno hz hv (pe_var (X := X.suite a ((a, oe) :: pn)) (pos := p) ht.1 hvis hd hcd) (pos := pos) hb
  refine tW_of q ?_
  exact ⟨_, h1, rfl, rfl, dd, _, u, rfl, hH.sub _ _ g1, l1, hP _ _ _ _ _ h Stp.refl hH l2⟩
end
end Kh

set_option Elab.async false
set_option linter.all false
set_option maxRecDepth 100000
set_option maxHeartbeats 1000000
namespace Kh
open PySem PySem.Spec L2
section
variable {X : Cx} {T : Bool} {τ : TEnv} {M : Mem} {P : PK'} {E : XKx} {e a b c o value : Expr} {es : List Expr} {pos pos' apos tpos : Pos} {R : RK} {rest : List Stmt} {x : Str}
/-- the name of a built-in type -/
theorem ex_gty {n : String} (hm : X.mg x = none) (hv : bootBuiltins x = some (.type n)) (h : P (.raw (.ty n)) M) (hg : Gl X x := by rfl) (hn : x ≠ "__name__" := by decide) (hd : (x == ("__debug__" : Str)) = false := by decide) : EX X T (.Name x pos) τ M P E :=
  ex_c (pe_bltn (v := .ty n) hg hm hv rfl hn hd) (fun _ => den_raw) h
/-- a list cell is changed no more -/
def FrzP (P : PK') : PK' := fun d M => ∃ p ds M3, d = .raw (.ref p) ∧ M.Perm ((p, .lst ds) :: M3) ∧ P (.lst ds) M3
theorem ex_frz (h : EX X T e τ M (FrzP P) E) : EX X T e τ M P E := .mk fun W tk σ G H hE hH Q hP hX =>
  h.run W tk σ G H hE hH Q (fun d M2 v G2 H2 ⟨p, ds, M3, ed, pm, hp⟩ s h2 dv => by
    subst ed
    obtain ⟨G', s3, h3, d3⟩ := freezeL (h2.perm pm)
    rw [dv.raw_inv]
    exact hP _ _ _ _ _ hp ((s.perm (List.Perm.refl _) pm).trans s3) h3 d3) hX
/-- cells that nothing names any more -/
theorem Hst.drop {K : PySem.W.Frag} {G H : Hp} {A B : Mem} (h : Hst K G (A ++ B) H) : Hst K G A H := h.left
theorem Stp.drop {G H G2 H2 : Hp} {A B : Mem} (s : Stp G M H G2 (A ++ B) H2) : Stp G M H G2 A H2 := ⟨s.gg, s.hh, s.fr, fun b hb => s.ad b (by rw [adr_append]; exact List.mem_append_left _ hb)⟩
def DropP (P : PK') : PK' := fun d M => ∃ A B, M.Perm (A ++ B) ∧ P d A
theorem ex_drop (h : EX X T e τ M (DropP P) E) : EX X T e τ M P E := .mk fun W tk σ G H hE hH Q hP hX =>
  h.run W tk σ G H hE hH Q (fun d M2 v G2 H2 ⟨A, B, pm, hp⟩ s h2 dv => hP _ _ _ _ _ hp (s.perm (List.Perm.refl _) pm).drop (h2.perm pm).drop dv) hX
theorem ws_drop {ss : List Stmt} {A B : Mem} (pm : M.Perm (A ++ B)) (h : WS X T ss τ A R) : WS X T ss τ M R := .mk fun W tk σ G H hE hH D hR => by
  have h2 := hH.perm pm
  have s2 : Stp G M H G A H := (Stp.refl.perm (List.Perm.refl _) pm).drop
  exact h.run W tk σ G H hE h2.drop D (hR.step s2)
end
/-- the class that an except clause names: own classes -/
theorem exm_of {K : PySem.W.Frag} {S D : Addr} {b : Bool} (h1 : PySem.W.subIn K (.ref D) (.type "BaseException") = some true) (h2 : PySem.W.isClsIn K D = true) (h3 : PySem.W.typeIn K (.ref D) = some (.type "type")) (h4 : PySem.W.subIn K (.ref S) (.ref D) = some b) :
    PySem.W.exmOne K (.ref S) (.ref D) = some b := by
  have e1 : (PySem.W.subIn K (.ref D) (.type "BaseException") == some true) = true := by rw [h1] <;> rfl
  have e2 : ((PySem.W.clsIn K D).isSome && PySem.W.typeIn K (.ref D) == some (.type "type")) = true := by
    have h2' : (PySem.W.clsIn K D).isSome = true := h2
    rw [h2', h3] <;> rfl
  show (if (PySem.W.subIn K (.ref D) (.type "BaseException") == some true) = true then (if ((PySem.W.clsIn K D).isSome && PySem.W.typeIn K (.ref D) == some (.type "type")) = true then PySem.W.subIn K (.ref S) (.ref D) else none) else none) = some b
  rw [if_pos e1, if_pos e2]
  exact h4
/-- the law's def at its script -/
theorem law_spS {K : PySem.W.Frag} {H : Hp} {a : Addr} {ns : List Int} {S : Spc} (hS : SqL K H a (ns.map V.int)) (h : S [.scr ns] [] (fun d _ => d = .bl true) E0') : toSp K S [.ref a] H (fun v _ => v = .bl true) fun _ _ _ => False :=
  ⟨H, [.scr ns], [], _, _, .cons (by simp only [Den]; exact ⟨a, rfl, hS⟩) .nil, ⟨Same.refl _, (fun _ h => by cases h), (fun _ h => by cases h), List.Pairwise.nil⟩, h, fun d M2 v G2 H2 e s h2 dv => by subst e; exact dv.bl_inv, noX⟩
/-! ### isinstance(d, int), isinstance(d, bool) of plain data -/
def isInt : Dat → Bool
  | .int _ => true
  | .bl _ => true
  | _ => false
def isBool : Dat → Bool
  | .bl _ => true
  | _ => false
/-- a whole number and no Boolean -/
def isWh : Dat → Bool
  | .int _ => true
  | _ => false
/-- what isinstance says of d -/
def KInt (K : PySem.W.Frag) (d : Dat) : Prop := ∀ M, ∃ t, TyD K M d t ∧ PySem.W.kitOne K t (.type "int") = some (isInt d) ∧ (isInt d = true → PySem.W.kitOne K t (.type "bool") = some (isBool d))
section
variable {K : PySem.W.Frag}
theorem kint_non : KInt K .non := fun M => ⟨_, .non, by rfl, fun h => nomatch h⟩
theorem kint_bl {b : Bool} : KInt K (.bl b) := fun M => ⟨_, .bl, by rfl, fun _ => by rfl⟩
theorem kint_int {i : Int} : KInt K (.int i) := fun M => ⟨_, .int, by rfl, fun _ => by rfl⟩
theorem kint_str {s : Str} : KInt K (.str s) := fun M => ⟨_, .str, by rfl, fun h => nomatch h⟩
theorem kint_lst {ds : List Dat} : KInt K (.lst ds) := fun M => ⟨_, .lst, by rfl, fun h => nomatch h⟩
theorem kint_tup {ds : List Dat} : KInt K (.tup ds) := fun M => ⟨_, .tup, by rfl, fun h => nomatch h⟩
theorem kint_dic0 : KInt K .dic0 := fun M => ⟨_, .dic0, by rfl, fun h => nomatch h⟩
theorem kint_atd {a : Addr} : KInt K (.at a .dic0) := fun M => ⟨_, .at .dic0, by rfl, fun h => nomatch h⟩
theorem kint_atl {a : Addr} {ds : List Dat} : KInt K (.at a (.lst ds)) := fun M => ⟨_, .at .lst, by rfl, fun h => nomatch h⟩
theorem kint_obj {C : Addr} {ns : List Str} {ds : List Dat} (h : ICls K C) (hk : PySem.W.kitOne K (.ref C) (.type "int") = some false) : KInt K (.obj C ns ds) := fun M => ⟨_, .obj h, hk, fun h => nomatch h⟩
end
/-! ### calls of defs, all cells handed -/
def UpP {α : Type} (P : α → Mem → Prop) : α → Mem → Prop := fun d Mc => ∃ M2, (Mc ++ []).Perm M2 ∧ P d M2
theorem UpP.mk {α : Type} {P : α → Mem → Prop} {d : α} {M : Mem} (h : P d M) : UpP P d M := ⟨M, by rw [List.append_nil], h⟩
theorem ap_all {S : Spc} {ds : List Dat} {M : Mem} {P : PK'} {E : XKx} (h : S ds M (UpP P) (UpP E)) : AP S ds M P E := ⟨M, [], by rw [List.append_nil], h⟩
section
variable {X : Cx} {T : Bool} {τ : TEnv} {M : Mem} {P : PK'} {E : XKx} {e o : Expr} {es : List Expr} {pos p apos : Pos} {k : Nat} {f C : Addr} {fd : FuncData} {ps : List Str} {S : Spc} {x m qual : Str} {st : Stmt}
theorem ex_callF (F : FnD X.prog X.w X.K X.mg X.base k f fd ps S) (hr : Room k X.A) (hm : X.mg x = some (.ref f)) (FF : Fun X.K x qual st f fd) (hb : Binds X.K fd ps [])
    (h : EA X T (e :: es) τ M (fun ds M1 => S ds M1 (UpP P) (UpP E)) E) (hg : Gl X x := by rfl) (hdb : (x == ("__debug__" : Str)) = false := by decide) (he : starEach (e :: es) X.env = (false, eval e X.env) :: starEach es X.env := by rfl) (hpl : (backTo pos (starEach es X.env)).any (·.1) = false := by rfl) :
    EX X T (.Call (.Name x p) (e :: es) [] pos) τ M P E := ex_call (df := []) (dvs := []) F hr hm FF.kp hb .nil (fun _ => .nil) (.mk fun W tk σ G H hE hH Q hP hX => h.run W tk σ G H hE hH Q (fun ds M2 vs G2 H2 hs => hP ds M2 vs G2 H2 (by show AP S (ds ++ []) M2 P E; rw [List.append_nil]; exact ap_all hs)) hX) hg hdb he hpl
end
section
variable {X : Cx} {T : Bool} {τ : TEnv} {M : Mem} {R : RK} {rest : List Stmt}
/-- a, b = x, y with plain local names -/
theorem ws_par {x y : Str} {a b : Expr} {px py pt pos : Pos} {kt k2 pt2} (h : EA X false [a, b] τ M (fun ds M1 => ∃ d1 d2, ds = [d1, d2] ∧ WS X T rest ((τ.set (ixIn X.N x) (some d1)).set (ixIn X.N y) (some d2)) M1 R) (fun z M1 => R (.ex z τ) M1))
    (hc : X.calm = true := by rfl) (hi : X.N[ixIn X.N x]? = some x := by rfl) (hj : X.N[ixIn X.N y]? = some y := by rfl) (hij : ixIn X.N x ≠ ixIn X.N y := by first | decide | exact of_decide_eq_true (by kernel_rfl)) (hN : X.N.Nodup := by first | decide +kernel | exact of_decide_eq_true (by kernel_rfl))
    (hx : X.env.scope.names.lookup x = some .local := by rfl) (hy : X.env.scope.names.lookup y = some .local := by rfl)
    (hw : swappedStores [.Tuple [.Name x px, .Name y py] kt pt] (.Tuple [a, b] k2 pt2) X.env = pure (some [x, y]) := by rfl)
    (hs : swapsWithSole [.Tuple [.Name x px, .Name y py] kt pt] (.Tuple [a, b] k2 pt2) pos.line X.env = pure false := by rfl) :
    WS X T (.Assign [.Tuple [.Name x px, .Name y py] kt pt] (.Tuple [a, b] k2 pt2) pos :: rest) τ M R := .mk fun W tk σ G H hE hH D hR => tWSs_len fun hl => by
  refine ws_step (ps_par hc hN hi hj hij hx hy pa_W hw hs) ?_
  refine h.run W tk σ G H hE hH _ ?_ (ex_out hR hE)
  rintro ds M1 vs G1 H1 ⟨d1, d2, rfl, hk⟩ s1 h1 dv
  obtain ⟨v, u, rfl, e1, e2⟩ := two_inv dv
  refine ⟨v, u, rfl, ?_⟩
  have l1 : ixIn X.N x < σ.length := by rw [hl]; exact (List.getElem?_eq_some_iff.mp hi).1
  have l2 : ixIn X.N y < (σ.set (ixIn X.N x) (some v)).length := by rw [List.length_set, hl]; exact (List.getElem?_eq_some_iff.mp hj).1
  exact hk.run W tk _ G1 H1 (((hE.up s1.gg).set l1 e1).set l2 e2) h1 D (hR.step s1)
theorem ws_par3 {x y z : Str} {a b c : Expr} {px py pz pt pos : Pos} {kt k2 pt2} (h : EA X false [a, b, c] τ M (fun ds M1 => ∃ d1 d2 d3, ds = [d1, d2, d3] ∧ WS X T rest (((τ.set (ixIn X.N x) (some d1)).set (ixIn X.N y) (some d2)).set (ixIn X.N z) (some d3)) M1 R) (fun z M1 => R (.ex z τ) M1))
    (hc : X.calm = true := by rfl) (hi : X.N[ixIn X.N x]? = some x := by rfl) (hj : X.N[ixIn X.N y]? = some y := by rfl) (hk : X.N[ixIn X.N z]? = some z := by rfl) (hij : ixIn X.N x ≠ ixIn X.N y := by first | decide | exact of_decide_eq_true (by kernel_rfl))
    (hik : ixIn X.N x ≠ ixIn X.N z := by first | decide | exact of_decide_eq_true (by kernel_rfl)) (hjk : ixIn X.N y ≠ ixIn X.N z := by first | decide | exact of_decide_eq_true (by kernel_rfl)) (hN : X.N.Nodup := by first | decide +kernel | exact of_decide_eq_true (by kernel_rfl))
    (hx : X.env.scope.names.lookup x = some .local := by rfl) (hy : X.env.scope.names.lookup y = some .local := by rfl) (hz : X.env.scope.names.lookup z = some .local := by rfl)
    (hw : swappedStores [.Tuple [.Name x px, .Name y py, .Name z pz] kt pt] (.Tuple [a, b, c] k2 pt2) X.env = pure (some [x, y, z]) := by rfl)
    (hs : swapsWithSole [.Tuple [.Name x px, .Name y py, .Name z pz] kt pt] (.Tuple [a, b, c] k2 pt2) pos.line X.env = pure false := by rfl) :
    WS X T (.Assign [.Tuple [.Name x px, .Name y py, .Name z pz] kt pt] (.Tuple [a, b, c] k2 pt2) pos :: rest) τ M R := .mk fun W tk σ G H hE hH D hR => tWSs_len fun hl => by
  refine ws_step (ps_par3 hc hN hi hj hk hij hik hjk hx hy hz pa_W hw hs) ?_
  refine h.run W tk σ G H hE hH _ ?_ (ex_out hR hE)
  rintro ds M1 vs G1 H1 ⟨d1, d2, d3, rfl, hkk⟩ s1 h1 dv
  obtain ⟨v, r, rfl, e1, dv⟩ := dv.cons_inv
  obtain ⟨u, u', rfl, e2, e3⟩ := two_inv dv
  refine ⟨v, u, u', rfl, ?_⟩
  have l1 : ixIn X.N x < σ.length := by rw [hl]; exact (List.getElem?_eq_some_iff.mp hi).1
  have l2 : ixIn X.N y < (σ.set (ixIn X.N x) (some v)).length := by rw [List.length_set, hl]; exact (List.getElem?_eq_some_iff.mp hj).1
  have l3 : ixIn X.N z < ((σ.set (ixIn X.N x) (some v)).set (ixIn X.N y) (some u)).length := by rw [List.length_set, List.length_set, hl]; exact (List.getElem?_eq_some_iff.mp hk).1
  exact hkk.run W tk _ G1 H1 ((((hE.up s1.gg).set l1 e1).set l2 e2).set l3 e3) h1 D (hR.step s1)
end
/-- ** of a wide base -/
def CPowW (i j : Int) : Prop := 0 ≤ j ∧ (Builtin.Int.intBits i : Int) * j ≤ 2 ^ 27
instance {i j : Int} : Decidable (CPowW i j) := inferInstanceAs (Decidable (_ ∧ _))
theorem op_powW {X : Cx} : OpR X (binaryOp .Pow) (rI CPowW fun i j => .int (i ^ j.toNat)) := opI fun _ _ _ _ _ _ _ hc q => PyProof.Rows.pow_int hc.1 hc.2 q
theorem o_powW {X : Cx} {T : Bool} {M : Mem} {P : PK'} {i j : Int} (hc : CPowW i j) (h : P (.int (i ^ j.toNat)) M) : OP X T (binaryOp .Pow) (.int i) (.int j) M P := op_IIc op_powW hc (fun _ => den_int) h
theorem mem_putC {p : Addr} {c c' : MC} : ∀ {M : Mem}, (p, c) ∈ M → (p, c') ∈ putC p c' M
  | (q, d) :: M, h => by
    show (p, c') ∈ if q = p then (p, c') :: M else (q, d) :: putC p c' M
    by_cases e : q = p
    · rw [if_pos e]; exact List.mem_cons_self
    · rw [if_neg e]
      rcases List.mem_cons.mp h with z | z
      · cases z; exact absurd rfl e
      · exact List.mem_cons_of_mem _ (mem_putC z)
theorem putC_putC {p : Addr} {c c' : MC} : ∀ {M : Mem}, putC p c' (putC p c M) = putC p c' M
  | [] => rfl
  | (q, d) :: M => by
    by_cases e : q = p
    · subst e; simp [putC]
    · simp [putC, e, putC_putC]
theorem mem_putC_ne {p q : Addr} {c d : MC} : ∀ {M : Mem}, (q, d) ∈ M → q ≠ p → (q, d) ∈ putC p c M
  | (r, e) :: M, h, n => by
    show (q, d) ∈ if r = p then (p, c) :: M else (r, e) :: putC p c M
    by_cases z : r = p
    · rw [if_pos z]
      rcases List.mem_cons.mp h with y | y
      · cases y; exact absurd z n
      · exact List.mem_cons_of_mem _ y
    · rw [if_neg z]
      rcases List.mem_cons.mp h with y | y
      · exact List.mem_cons.mpr (.inl y)
      · exact List.mem_cons_of_mem _ (mem_putC_ne y n)
theorem WS.imp {X : Cx} {T : Bool} {τ : TEnv} {M : Mem} {R R' : RK} {ss : List Stmt} (h : WS X T ss τ M R') (hi : ∀ o M2, R' o M2 → R o M2) : WS X T ss τ M R := .mk fun W tk σ G H hE hH D hR =>
  h.run W tk σ G H hE hH D fun o M2 G2 H2 r s h2 => hR o M2 G2 H2 (hi _ _ r) s h2
end Kh

set_option Elab.async false
set_option linter.all false
set_option maxRecDepth 100000
set_option maxHeartbeats 1000000
namespace Kh
open PySem PySem.Spec L2
/-! ### data that are equal by their shape, or are one object -/
mutual
def eqT : Dat → Dat → Bool
  | .non, .non => true
  | .bl a, .bl b => decide (a = b)
  | .int i, .int j => decide (i = j)
  | .str s, .str t => decide (s = t)
  | .lst xs, .lst ys => eqTL xs ys
  | .tup xs, .tup ys => eqTL xs ys
  | .at a _, .at b _ => decide (a = b)
  | .raw (.ref a), .raw (.ref b) => decide (a = b)
  | _, _ => false
def eqTL : List Dat → List Dat → Bool
  | [], [] => true
  | x :: xs, y :: ys => eqT x y && eqTL xs ys
  | _, _ => false
end
mutual
def dpD : Dat → Nat
  | .lst xs => dpDL xs + 1
  | .tup xs => dpDL xs + 1
  | _ => 1
def dpDL : List Dat → Nat
  | [] => 0
  | x :: xs => max (dpD x) (dpDL xs)
end
theorem all_true (n : Nat) : ((List.range n).all fun _ => true) = true := List.all_eq_true.mpr fun _ _ => rfl
section
variable {X : Cx} {pins : List (Addr × Obj)} {σ : L2.St} {H G : Hp} {s : Shared}
open PySem.SeqAt (EqAt RcAt RcNeAt)
theorem eqTL_len : ∀ {xs ys : List Dat}, eqTL xs ys = true → xs.length = ys.length
  | [], [], _ => rfl
  | x :: xs, y :: ys, h => by
    simp only [eqTL, Bool.and_eq_true] at h
    simp only [List.length_cons, eqTL_len h.2]
  | [], _ :: _, h => by simp [eqTL] at h
  | _ :: _, [], h => by simp [eqTL] at h
mutual
theorem eqT_run (I : Inv X pins σ H s) (hs : Same G H) : ∀ (x y : Dat) (A : Around) (v u : V) (v' u' : Value), eqT x y = true → A.units + dpD x < cLine → Den X.K G x v → Den X.K G y u → RelV v v' → RelV u u' → EqAt A s v' u' true
  | .non, y, A, v, u, v', u', h, hu, dx, dy, r, r' => by
    cases y <;> simp [eqT] at h
    rw [dx.non_inv] at r; rw [dy.non_inv] at r'
    exact eqAt_same r r' rfl
  | .bl a, y, A, v, u, v', u', h, hu, dx, dy, r, r' => by
    cases y <;> simp [eqT] at h
    subst h
    rw [dx.bl_inv] at r; rw [dy.bl_inv] at r'
    exact eqAt_same r r' rfl
  | .int i, y, A, v, u, v', u', h, hu, dx, dy, r, r' => by
    cases y <;> simp [eqT] at h
    subst h
    rw [dx.int_inv] at r; rw [dy.int_inv] at r'
    exact eqAt_same r r' rfl
  | .str i, y, A, v, u, v', u', h, hu, dx, dy, r, r' => by
    cases y <;> simp [eqT] at h
    subst h
    rw [dx.str_inv] at r; rw [dy.str_inv] at r'
    exact eqAt_same r r' rfl
  | .at a d, y, A, v, u, v', u', h, hu, dx, dy, r, r' => by
    cases y <;> simp [eqT] at h
    subst h
    obtain ⟨rfl, _⟩ := dx.at_inv
    obtain ⟨rfl, _⟩ := dy.at_inv
    cases r; cases r'
    exact EqAt.same _
  | .lst xs, y, A, v, u, v', u', h, hu, dx, dy, r, r' => by
    cases y with
    | lst ys =>
      have h : eqTL xs ys = true := by simpa [eqT] using h
      have hu : A.units + (dpDL xs + 1) < cLine := by simpa only [dpD] using hu
      obtain ⟨a, vs, rfl, ga, da⟩ := dx.lst_inv
      obtain ⟨b, us, rfl, gb, db⟩ := dy.lst_inv
      cases r; cases r'
      by_cases e : a = b
      · subst e; exact EqAt.same _
      · obtain ⟨ws, r1, p1, _⟩ := I.list (SqL.of (hs _ _ ga))
        obtain ⟨zs, r2, p2, _⟩ := I.list (SqL.of (hs _ _ gb))
        have hz : ws.toArray.size = zs.toArray.size := by rw [List.size_toArray, List.size_toArray, ← r1.length, ← r2.length, da.length, db.length, eqTL_len h]
        refine EqAt.of_refs e ?_
        have := RcAt.lists (A := A) (e := fun _ => true) p1.isList p2.isList hz (by omega) (fun j h1 h2 => by
          have := eqTL_run I hs xs ys A.in1 vs us ws zs h (by show A.units + 1 + dpDL xs < cLine; omega) da db r1 r2 j (by simpa using h1) (by simpa using h2)
          simpa using this)
        rw [all_true] at this
        exact this
    | _ => simp [eqT] at h
  | .tup xs, y, A, v, u, v', u', h, hu, dx, dy, r, r' => by
    cases y with
    | tup ys =>
      have h : eqTL xs ys = true := by simpa [eqT] using h
      have hu : A.units + (dpDL xs + 1) < cLine := by simpa only [dpD] using hu
      obtain ⟨a, vs, rfl, ga, da⟩ := dx.tup_inv
      obtain ⟨b, us, rfl, gb, db⟩ := dy.tup_inv
      cases r; cases r'
      by_cases e : a = b
      · subst e; exact EqAt.same _
      · obtain ⟨ws, r1, p1, _⟩ := I.tuple (SqT.of (hs _ _ ga))
        obtain ⟨zs, r2, p2, _⟩ := I.tuple (SqT.of (hs _ _ gb))
        have hz : ws.toArray.size = zs.toArray.size := by rw [List.size_toArray, List.size_toArray, ← r1.length, ← r2.length, da.length, db.length, eqTL_len h]
        refine EqAt.of_refs e ?_
        have := RcAt.tuples (A := A) (e := fun _ => true) p1 p2 (by omega) (fun j h1 h2 => by
          have := eqTL_run I hs xs ys A.in1 vs us ws zs h (by show A.units + 1 + dpDL xs < cLine; omega) da db r1 r2 j (by simpa using h1) (by simpa using h2)
          simpa using this)
        rw [all_true, hz] at this
        simpa using this
    | _ => simp [eqT] at h
  | .raw w, y, A, v, u, v', u', h, hu, dx, dy, r, r' => by
    have e : ∃ a, w = .ref a ∧ y = .raw (.ref a) := by
      cases y with
      | raw z =>
        cases w <;> cases z <;> simp [eqT] at h
        subst h; exact ⟨_, rfl, rfl⟩
      | _ => cases w <;> simp [eqT] at h
    obtain ⟨a, rfl, rfl⟩ := e
    rw [dx.raw_inv] at r; rw [dy.raw_inv] at r'
    cases r; cases r'
    exact EqAt.same _
  | .dic0, y, A, v, u, v', u', h, hu, dx, dy, r, r' => by simp [eqT] at h
  | .scr ns, y, A, v, u, v', u', h, hu, dx, dy, r, r' => by simp [eqT] at h
  | .obj C ns ds, y, A, v, u, v', u', h, hu, dx, dy, r, r' => by simp [eqT] at h
  | .xn a dd ns ds, y, A, v, u, v', u', h, hu, dx, dy, r, r' => by simp [eqT] at h
theorem eqTL_run (I : Inv X pins σ H s) (hs : Same G H) : ∀ (xs ys : List Dat) (A : Around) (vs us : List V) (ws zs : List Value), eqTL xs ys = true → A.units + dpDL xs < cLine → DenL X.K G xs vs → DenL X.K G ys us → Vals vs ws → Vals us zs →
    ∀ j (h1 : j < ws.length) (h2 : j < zs.length), EqAt A s ws[j] zs[j] true
  | [], ys, A, vs, us, ws, zs, h, hu, dx, dy, r, r', j, h1, h2 => by
    rw [dx.nil_inv] at r
    cases r
    exact absurd h1 (Nat.not_lt_zero _)
  | x :: xs, ys, A, vs, us, ws, zs, h, hu, dx, dy, r, r', j, h1, h2 => by
    cases ys with
    | nil => simp [eqTL] at h
    | cons y ys =>
      simp only [eqTL, Bool.and_eq_true] at h
      have hu : A.units + max (dpD x) (dpDL xs) < cLine := by simpa only [dpDL] using hu
      obtain ⟨v, vr, rfl, dv, dvr⟩ := dx.cons_inv
      obtain ⟨u, ur, rfl, du, dur⟩ := dy.cons_inv
      cases r with
      | cons ra rb =>
        cases r' with
        | cons ra' rb' =>
          cases j with
          | zero => exact eqT_run I hs x y A v u _ _ h.1 (by omega) dv du ra ra'
          | succ j => exact eqTL_run I hs xs ys A vr ur _ _ h.2 (by omega) dvr dur rb rb' j (Nat.lt_of_succ_lt_succ h1) (Nat.lt_of_succ_lt_succ h2)
end
end
section
variable {X : Cx} {T : Bool} {τ : TEnv} {M : Mem} {P : PK'} {E : XKx} {e a b c o value : Expr} {es : List Expr} {pos pos' apos tpos : Pos} {R : RK} {rest : List Stmt} {x : Str}
open PySem.SeqAt (EqAt RcAt RcNeAt)
/-- two lists of one shape: !=, == -/
theorem o_neLT {xs ys : List Dat} (h : eqTL xs ys = true) (hd : dpDL xs ≤ 60) (hu : X.A.units + 64 < cLine) (hP : P (.bl false) M) : OP X T (compareOp .NotEq) (.lst xs) (.lst ys) M P := by
  intro G H v u hH dx dy Q hQ pins s σ v' u' _ I r r'
  obtain ⟨a, vs, rfl, ga, da⟩ := dx.lst_inv
  obtain ⟨b, us, rfl, gb, db⟩ := dy.lst_inv
  cases r; cases r'
  obtain ⟨ws, r1, p1, _⟩ := I.list (SqL.of (hH.sub _ _ ga))
  obtain ⟨zs, r2, p2, _⟩ := I.list (SqL.of (hH.sub _ _ gb))
  have hz : ws.toArray.size = zs.toArray.size := by rw [List.size_toArray, List.size_toArray, ← r1.length, ← r2.length, da.length, db.length, eqTL_len h]
  have := RcNeAt.lists (A := X.A) (e := fun _ => true) p1.isList p2.isList hz (by omega) (fun j h1 h2 => by
    have := eqTL_run I hH.sub xs ys X.A.in1 vs us ws zs h (by show X.A.units + 1 + dpDL xs < cLine; omega) da db r1 r2 j (by simpa using h1) (by simpa using h2)
    simpa using this)
  rw [all_true] at this
  exact this _ _ _ _ ⟨.bl false, H, I, rfl, hQ _ _ _ _ _ hP Stp.refl hH den_bl⟩
theorem o_eqLT {xs ys : List Dat} (h : eqTL xs ys = true) (hd : dpDL xs ≤ 60) (hu : X.A.units + 64 < cLine) (hP : P (.bl true) M) : OP X T (compareOp .Eq) (.lst xs) (.lst ys) M P := by
  intro G H v u hH dx dy Q hQ pins s σ v' u' _ I r r'
  obtain ⟨a, vs, rfl, ga, da⟩ := dx.lst_inv
  obtain ⟨b, us, rfl, gb, db⟩ := dy.lst_inv
  cases r; cases r'
  obtain ⟨ws, r1, p1, _⟩ := I.list (SqL.of (hH.sub _ _ ga))
  obtain ⟨zs, r2, p2, _⟩ := I.list (SqL.of (hH.sub _ _ gb))
  have hz : ws.toArray.size = zs.toArray.size := by rw [List.size_toArray, List.size_toArray, ← r1.length, ← r2.length, da.length, db.length, eqTL_len h]
  have := RcAt.lists (A := X.A) (e := fun _ => true) p1.isList p2.isList hz (by omega) (fun j h1 h2 => by
    have := eqTL_run I hH.sub xs ys X.A.in1 vs us ws zs h (by show X.A.units + 1 + dpDL xs < cLine; omega) da db r1 r2 j (by simpa using h1) (by simpa using h2)
    simpa using this)
  rw [all_true] at this
  exact this _ _ _ _ ⟨.bl true, H, I, rfl, hQ _ _ _ _ _ hP Stp.refl hH den_bl⟩
/-- two lists of different lengths -/
theorem o_eqLn {xs ys : List Dat} (h : xs.length ≠ ys.length) (hu : X.A.units + 64 < cLine) (hP : P (.bl false) M) : OP X T (compareOp .Eq) (.lst xs) (.lst ys) M P := by
  intro G H v u hH dx dy Q hQ pins s σ v' u' _ I r r'
  obtain ⟨a, vs, rfl, ga, da⟩ := dx.lst_inv
  obtain ⟨b, us, rfl, gb, db⟩ := dy.lst_inv
  cases r; cases r'
  obtain ⟨ws, r1, p1, _⟩ := I.list (SqL.of (hH.sub _ _ ga))
  obtain ⟨zs, r2, p2, _⟩ := I.list (SqL.of (hH.sub _ _ gb))
  have hz : (ws.toArray.size != zs.toArray.size) = true := by
    rw [List.size_toArray, List.size_toArray, ← r1.length, ← r2.length, da.length, db.length]
    simpa using h
  exact RcAt.lists_lengths (A := X.A) p1.isList p2.isList hz (by omega) _ _ _ _ ⟨.bl false, H, I, rfl, hQ _ _ _ _ _ hP Stp.refl hH den_bl⟩
theorem o_neLn {xs ys : List Dat} (h : xs.length ≠ ys.length) (hu : X.A.units + 64 < cLine) (hP : P (.bl true) M) : OP X T (compareOp .NotEq) (.lst xs) (.lst ys) M P := by
  intro G H v u hH dx dy Q hQ pins s σ v' u' _ I r r'
  obtain ⟨a, vs, rfl, ga, da⟩ := dx.lst_inv
  obtain ⟨b, us, rfl, gb, db⟩ := dy.lst_inv
  cases r; cases r'
  obtain ⟨ws, r1, p1, _⟩ := I.list (SqL.of (hH.sub _ _ ga))
  obtain ⟨zs, r2, p2, _⟩ := I.list (SqL.of (hH.sub _ _ gb))
  have hz : (ws.toArray.size != zs.toArray.size) = true := by
    rw [List.size_toArray, List.size_toArray, ← r1.length, ← r2.length, da.length, db.length]
    simpa using h
  exact RcNeAt.lists_lengths (A := X.A) p1.isList p2.isList hz (by omega) _ _ _ _ ⟨.bl true, H, I, rfl, hQ _ _ _ _ _ hP Stp.refl hH den_bl⟩
/-- {} -/
theorem ex_dict0 (h : ∀ q, P (.at q .dic0) M) : EX X T (.Dict [] [] pos) τ M P E := .mk fun W tk σ G H hE hH Q hP hX =>
  tW_of pe_dnewK fun q hq => by
    obtain ⟨s2, h2⟩ := Stp.new (o := .dK []) hH hq
    exact hP _ _ _ _ _ (h q) s2 h2 (den_at (by simp only [Den]; exact ⟨q, rfl, upd_same⟩))
end
/-! d is told equal to itself: no object of the heap but by its place -/
mutual
def selfE : Dat → Bool
  | .non | .bl _ | .int _ | .str _ | .at _ _ => true
  | .lst xs => selfEL xs
  | .tup xs => selfEL xs
  | _ => false
def selfEL : List Dat → Bool
  | [] => true
  | x :: xs => selfE x && selfEL xs
end
mutual
theorem eqT_self : ∀ d : Dat, selfE d = true → eqT d d = true
  | .non, _ => rfl
  | .bl _, _ => by simp [eqT]
  | .int _, _ => by simp [eqT]
  | .str _, _ => by simp [eqT]
  | .at _ _, _ => by simp [eqT]
  | .lst xs, h => by simp only [eqT]; exact eqTL_self xs (by simpa [selfE] using h)
  | .tup xs, h => by simp only [eqT]; exact eqTL_self xs (by simpa [selfE] using h)
  | .raw _, h => by simp [selfE] at h
  | .dic0, h => by simp [selfE] at h
  | .scr _, h => by simp [selfE] at h
  | .obj _ _ _, h => by simp [selfE] at h
  | .xn _ _ _ _, h => by simp [selfE] at h
theorem eqTL_self : ∀ ds : List Dat, selfEL ds = true → eqTL ds ds = true
  | [], _ => rfl
  | d :: ds, h => by
    simp only [selfEL, Bool.and_eq_true] at h
    simp only [eqTL, Bool.and_eq_true]
    exact ⟨eqT_self d h.1, eqTL_self ds h.2⟩
end
theorem ws_dropN {X : Cx} {T : Bool} {τ : TEnv} {M : Mem} {R : RK} {ss : List Stmt} (h : WS X T ss τ [] R) : WS X T ss τ M R := ws_drop (A := []) (B := M) (List.Perm.refl _) h
end Kh

set_option Elab.async false
set_option linter.all false
set_option maxRecDepth 100000
set_option maxHeartbeats 1000000
namespace Kh
open PySem PySem.Spec L2
section
variable {X : Cx} {T : Bool} {τ : TEnv} {M : Mem} {P : PK'} {E : XKx} {e a b c o value : Expr} {es : List Expr} {pos pos' p apos tpos : Pos} {R : RK} {rest : List Stmt} {x f n : Str} {C D fa : Addr} {k : Nat} {fd : FuncData} {ps : List Str} {S : Spc}
/-! ### self.f = e -/
def putD (f : Str) (v : Dat) : List (Str × Dat) → List (Str × Dat)
  | [] => [(f, v)]
  | (g, x) :: r => if g = f then (g, v) :: r else (g, x) :: putD f v r
theorem denF_put {K : PySem.W.Frag} {G : Hp} {d : Dat} {v : V} (h : Den K G d v) : ∀ {fs : List (Str × Dat)} {vs : List (Str × V)}, DenF K G fs vs → DenF K G (putD f d fs) (putF f v vs)
  | [], [], _ => ⟨rfl, .cons h .nil⟩
  | [], _ :: _, q => by have := q.1; simp at this
  | _ :: _, [], q => by have := q.1; simp at this
  | (g, x) :: fs, (g', u) :: vs, ⟨q1, q2⟩ => by
    rw [List.map_cons, List.map_cons] at q1
    obtain ⟨e1, e2⟩ := List.cons.inj q1
    have e1 : g' = g := e1
    subst e1
    obtain ⟨u', r, e, hu, t⟩ := (show DenL K G (x :: fs.map (·.2)) (u :: vs.map (·.2)) from q2).cons_inv
    obtain ⟨rfl, rfl⟩ := List.cons.inj e
    by_cases z : g' = f
    · simp only [putD, putF, if_pos z]
      exact ⟨by simp [e2], .cons h t⟩
    · simp only [putD, putF, if_neg z]
      have ih := denF_put h ⟨e2, t⟩
      exact ⟨by simp only [List.map_cons, ih.1], .cons hu ih.2⟩
theorem DenF.length {K : PySem.W.Frag} {G : Hp} {fs : List (Str × Dat)} {vs : List (Str × V)} (h : DenF K G fs vs) : vs.length = fs.length := by
  have := congrArg List.length h.1
  simpa using this
theorem ws_fld (h : EX X false value τ M (fun d M1 => EX X false o τ M1 (fun od M2 => ∃ q C dx fs, od = .raw (.ref q) ∧ (q, MC.ins C dx fs) ∈ M2 ∧ Cls X.K C ∧ NoAttr X.K C f ∧ fs.length < 1000 ∧ WS X T rest τ (putC q (.ins C dx (putD f d fs)) M2) R) (fun x M2 => R (.ex x τ) M2)) (fun x M1 => R (.ex x τ) M1))
    (hs : swapsWith value (some (.Attribute o f pos')) pos.line X.env = pure false := by rfl) : WS X T (.Assign [.Attribute o f pos'] value pos :: rest) τ M R := .mk fun W tk σ G H hE hH D hR => by
  refine ws_step (ps_fld (pe_W (e := o)) (pe_W (e := value)) hs) ?_
  refine h.run W tk σ G H hE hH _ ?_ (ex_out hR hE)
  intro d M1 v G1 H1 ho s1 h1 dv
  refine ho.run W tk σ G1 H1 (hE.up s1.gg) h1 _ ?_ ((ex_out hR hE).step s1)
  rintro od M2 ov G2 H2 ⟨q, C, dx, fs, rfl, hm, hc, hn, hl, hw⟩ s2 h2 dov
  obtain ⟨vs, g1, g2, g3⟩ := h2.mem _ hm
  have hcell : MH X.K G2 (upd H2 q (.ins C dx (putF f v vs))) (q, .ins C dx (putD f d fs)) := by
    have ne : dx ≠ q := fun z => by rw [z, g1] at g2; cases g2
    exact ⟨_, upd_same, by rw [upd_ne ne]; exact g2, denF_put (dv.up s2.gg) g3⟩
  obtain ⟨s3, h3⟩ := put_ok (c' := .ins C dx (putD f d fs)) (H2 := upd H2 q (.ins C dx (putF f v vs))) h2 hm rfl (fun b hb => upd_ne hb) hcell
  exact ⟨q, C, dx, vs, dov.raw_inv, g1, hc, hn, by rw [g3.length]; exact hl, hw.run W tk σ G2 _ ((hE.up s1.gg).up s2.gg) h3 D (hR.step ((s1.trans s2).trans s3))⟩
/-! ### C(), C without __init__ -/
structure Mk0 (K : PySem.W.Frag) (C : Addr) : Prop where
  makes : PySem.W.makesIn K C = true
  init : PySem.W.findIn K (.ref C) "__init__" = some (some (.builtin "object.__init__"))
  kp : PySem.W.keepIn K (.ref C) = true
  top : PySem.W.mroIn K C (.type "object") = some true
theorem ex_new0 (Mk' : Mk0 X.K C) (hm : X.mg x = some (.ref C)) (h : ∀ q dx, q ∉ adr M → dx ∉ adr M → dx ≠ q → MadeP P q ((q, .ins C dx []) :: M)) (hg : Gl X x := by rfl) (hdb : (x == ("__debug__" : Str)) = false := by decide) :
    EX X T (.Call (.Name x p) [] [] pos) τ M P E := .mk fun W tk σ G H hE hH Q hP hX pins s k0 I => by
  refine wpAny_Call_Name_kw (ld_glob I hg hm ?_ hdb)
  refine PySem.W.callWith_K0 I.kIn Mk'.kp ?_
  have hx : H (s.heap.objs.size + 1) = none := I.hok.fresh (Nat.le_succ _)
  have hdx : H s.heap.objs.size = none := I.hok.fresh (Nat.le_refl _)
  have ne : s.heap.objs.size ≠ s.heap.objs.size + 1 := Nat.ne_of_lt (Nat.lt_succ_self _)
  have n1 : s.heap.objs.size + 1 ∉ adr M := fun z => hH.there _ z hx
  have n2 : s.heap.objs.size ∉ adr M := fun z => hH.there _ z hdx
  obtain ⟨h1, s1⟩ := hst_new (C := C) hH hx hdx ne
  have q := madeP_ce hP (h _ _ n1 n2 ne) s1 h1
  have I2 := Inv.made (C := C) I
  refine wpAny_call (make_map0 I.kIn Mk'.makes Mk'.init (fun self => PySem.W.Looks.of_pure (PySem.W.oi_bind self)) ?_)
  have hget : ((s.heap.push PySem.W.emptyDict).push (PySem.W.instObj C s.heap.objs.size)).get? (s.heap.objs.size + 1) = some (PySem.W.instObj C s.heap.objs.size) := by
    have := Heap.get?_push_size (s.heap.push PySem.W.emptyDict) (o := PySem.W.instObj C s.heap.objs.size) rfl
    rwa [Heap.size_push] at this
  have t1 : PySem.W.Looks (model X.prog X.w) ((s.heap.push PySem.W.emptyDict).push (PySem.W.instObj C s.heap.objs.size)) (typeOf (.ref (s.heap.objs.size + 1))) (.ref C) := (PySem.W.Looks.ld hget).andThen .now
  have t2 : PySem.W.Looks (model X.prog X.w) ((s.heap.push PySem.W.emptyDict).push (PySem.W.instObj C s.heap.objs.size)) (isInstance (.ref (s.heap.objs.size + 1)) (.type "object")) true := t1.andThen (PySem.W.looks_mroIn I2.kIn Mk'.top)
  refine codeAny_call_builtin PySem.W.oi_plain PySem.W.entry_oi (@PySem.W.check_slot (model X.prog X.w) _ _ _ "object.__init__" "object" "__init__" (.ref (s.heap.objs.size + 1)) [] [] _ PySem.W.oi_kind PySem.W.oi_split t2 (PySem.W.oi_args (.ref (s.heap.objs.size + 1))) ?_)
  rw [PySem.W.oi_run]
  exact wpAny_pure (And.intro rfl ⟨V.ref (s.heap.objs.size + 1), _, I2, rfl, q⟩)
/-! ### own == -/
/-- x == y, x an instance of the class at C with an own __eq__ at fa -/
theorem o_eqOwn {x y : Dat} {t : Value} (F : FnD X.prog X.w X.K X.mg X.base k fa fd ps S) (hr : Room k X.A) (hs : PySem.W.findIn X.K (.ref C) "__eq__" = some (some (.ref fa))) (hf : PySem.W.isFn X.K (.ref fa) = true) (hb : Binds X.K fd ps [])
    (hx : IsI C "__eq__" M x) (ty : TyD X.K M y t) (hn : PySem.W.notFirst X.K C t = true) (h : S [x, y] M (UpP fun d M2 => ∃ b, d = .bl b ∧ P (.bl b) M2) (UpP E0')) : OP X T (compareOp .Eq) x y M P := by
  intro G H v u hH dx dy Q hP pins s σ v' u' _ I rx ry
  obtain ⟨a, dxa, fs, rfl, ea, _⟩ := hx.get hH dx
  obtain rfl : v' = Value.ref a := rx
  obtain ⟨mA, J, _⟩ := ins_get I.hok ea
  obtain ⟨od, J, _⟩ := J.look
  obtain ⟨m, hF⟩ := I.fr
  obtain ⟨Pr, Z, pz, _⟩ := kit_of I ry (tyD_ok ty hH dy)
  have hsp : toSp X.K S [.ref a, u] H (fun z H' => ∃ b, z = .bl b ∧ Q (.bl b) H') (fun _ _ _ => False) :=
    ap_toSp (ap_all h) (.cons dx (.cons dy .nil)) hH (fun d M2 z G2 H2 ⟨b, ed, hp⟩ s2 h2 dz => by subst ed; exact ⟨b, dz.bl_inv, hP _ _ _ _ _ hp s2 h2 den_bl⟩) noX
  refine PySem.W.cmp_K (op := .Eq) (tb := t) hr.units0 hF I.ok.mod.kin J (Z.ty _ _ I.kIn pz) hn hs hf ?_
  refine wpAny_mono (run_d (dsv := []) (dvs := []) (W := fun _ _ _ _ => False) (us := [.ref a, u']) (vs := [.ref a, u]) F hr hb .nil takes0 I (.cons rfl (.cons ry .nil)) (by rw [List.append_nil]; exact hsp)) (fun r s' q => ?_) fun _ _ z => z
  obtain ⟨z, H', I', rz, b, ez, q⟩ := q
  subst ez
  cases rz
  exact ⟨.bl b, H', I', rfl, q⟩
end
/-! ### defs with defaults -/
structure FunV (K : PySem.W.Frag) (x qual : Str) (st : Stmt) (f : Addr) (fd : FuncData) : Prop where
  ex : ∃ (oc : Value) (od : Option Addr) (dV kV doc pm : Value) (an : Option Addr) (cdv ct : Value) (osl : Array (Option Value)),
    fd = PySem.W.fnOf x qual (defArgs st) (defBody st) (defScope st) dV kV doc pm an cdv ct ∧ K.lookup f = some ⟨oc, od, .func fd, osl⟩ ∧ PySem.W.codeIn K cdv qual = true
  kp : PySem.W.keepIn K (.ref f) = true
theorem fn_dV {P : Program} {w : World} {K : PySem.W.Frag} {mg : Str → Option Value} {base : Heap} {x qual : Str} {st : Stmt} {f : Addr} {fd : FuncData} {N ps : List Str} {k : Nat} {S : Spc} (T : Bool) (F : FunV K x qual st f fd) (Sc : FnScope N ps (defScope st)) (hT : T = true → ∃ x ∈ ps, (defScope st).names.lookup x = some .local) (len : ∀ ds M P E, S ds M P E → ds.length = ps.length)
    (body : ∀ (cdv : Value) (A : Around) (outer : List Env) (s : Shared) (H : Hp) (E : XK), Room k (A.deeper (PyProof.Rows.envOfC qual (defScope st) s.heap.objs.size f cdv)) → ∀ ds M Pd PE, S ds M Pd PE →
      WS (cxOf (L2.CX P w) P w K mg base N qual (defScope st) f cdv A outer s H E) T (defBody st) (startT N ds) M (retR Pd PE)) : FnD P w K mg base (k + 1) f fd ps S := by
  obtain ⟨oc, od, dV, kV, doc, pm, an, cdv, ct, osl, rfl, lk, hcd⟩ := F.ex
  refine fn_w (T := T) lk hcd Sc hT (fun vs H Q E h => ?_) (fun A outer s H vs Q E hr h => ?_)
  · obtain ⟨G, ds, M, Pd, PE, dv, _, hs, _⟩ := h
    rw [dv.length]; exact len _ _ _ _ hs
  · obtain ⟨G, ds, M, Pd, PE, dv, hH, hs, hP, hX⟩ := h
    exact (body cdv A outer s H E hr ds M Pd PE hs).run _ (takes_of rfl rfl rfl rfl) _ G H (denE_start dv) hH _ (cs_ret hP fun x M2 G2 H2 d p s h dx σ => hX x M2 G2 H2 d p s h dx)
/-! ### isinstance between classes -/
section
variable {K : PySem.W.Frag} {C D : Addr} {b : Bool}
theorem kit_ty {T : String} (h : PySem.W.subIn K (.ref C) (.type T) = some b) (hm : PySem.W.kitMeta T = true := by rfl) : PySem.W.kitOne K (.ref C) (.type T) = some b := by
  show (if (Value.ref C == Value.type T) = true then some true else if PySem.W.kitMeta T = true then PySem.W.subIn K (.ref C) (.type T) else none) = some b
  rw [if_neg (by simp), if_pos hm]
  exact h
theorem kit_self {t : Value} : PySem.W.kitOne K t t = some true := by
  unfold PySem.W.kitOne
  rw [if_pos (by simp)]
theorem kit_rr (h2 : PySem.W.isClsIn K D = true) (h3 : PySem.W.typeIn K (.ref D) = some (.type "type")) (h : PySem.W.subIn K (.ref C) (.ref D) = some b) (hs : C = D → b = true) : PySem.W.kitOne K (.ref C) (.ref D) = some b := by
  by_cases e : C = D
  · subst e; rw [hs rfl]; exact kit_self
  · have e2 : ((PySem.W.clsIn K D).isSome && PySem.W.typeIn K (.ref D) == some (.type "type")) = true := by
      have h2' : (PySem.W.clsIn K D).isSome = true := h2
      rw [h2', h3] <;> rfl
    show (if (Value.ref C == Value.ref D) = true then some true else if ((PySem.W.clsIn K D).isSome && PySem.W.typeIn K (.ref D) == some (.type "type")) = true then PySem.W.subIn K (.ref C) (.ref D) else none) = some b
    rw [if_neg (by simpa using e), if_pos e2]
    exact h
theorem kit_rr2 (h2 : PySem.W.isClsIn K D = true) (h3 : PySem.W.typeIn K (.ref D) = some (.type "type")) (hself : PySem.W.mroIn K C (.ref C) = some true) (h : PySem.W.subIn K (.ref C) (.ref D) = some b) : PySem.W.kitOne K (.ref C) (.ref D) = some b := kit_rr h2 h3 h fun e => by
  subst e
  have z : PySem.W.subIn K (.ref C) (.ref C) = some true := hself
  rw [z] at h
  exact (Option.some.inj h).symm
theorem kit_tr {T : String} (h2 : PySem.W.isClsIn K D = true) (h3 : PySem.W.typeIn K (.ref D) = some (.type "type")) (h : PySem.W.subIn K (.type T) (.ref D) = some false) : PySem.W.kitOne K (.type T) (.ref D) = some false := by
  have e2 : ((PySem.W.clsIn K D).isSome && PySem.W.typeIn K (.ref D) == some (.type "type")) = true := by
    have h2' : (PySem.W.clsIn K D).isSome = true := h2
    rw [h2', h3] <;> rfl
  show (if (Value.type T == Value.ref D) = true then some true else if ((PySem.W.clsIn K D).isSome && PySem.W.typeIn K (.ref D) == some (.type "type")) = true then PySem.W.subIn K (.type T) (.ref D) else none) = some false
  rw [if_neg (by simp), if_pos e2]
  exact h
end
section
variable {X : Cx} {T : Bool} {τ : TEnv} {M : Mem} {P : PK'} {E : XKx} {e : Expr}
/-- an object of the heap, told with its place -/
def isR : Dat → Bool
  | .dic0 | .lst _ | .tup _ | .obj _ _ _ => true
  | _ => false
theorem den_isR {K : PySem.W.Frag} {G : Hp} {d : Dat} {v : V} (h : isR d = true) (dv : Den K G d v) : ∃ a, v = .ref a := by
  cases d with
  | dic0 => obtain ⟨a, rfl, _⟩ := dv.dic0_inv; exact ⟨a, rfl⟩
  | lst xs => obtain ⟨a, _, rfl, _⟩ := dv.lst_inv; exact ⟨a, rfl⟩
  | tup xs => obtain ⟨a, _, rfl, _⟩ := dv.tup_inv; exact ⟨a, rfl⟩
  | obj C ns xs => obtain ⟨a, _, _, rfl, _⟩ := dv.obj_inv; exact ⟨a, rfl⟩
  | _ => cases h
theorem ex_tag (h : EX X T e τ M (fun d M1 => isR d = true ∧ ∀ a, P (.at a d) M1) E) : EX X T e τ M P E := .mk fun W tk σ G H hE hH Q hP hX =>
  h.run W tk σ G H hE hH Q (fun d M2 v G2 H2 ⟨hr, hp⟩ s h2 dv => by
    obtain ⟨a, rfl⟩ := den_isR hr dv
    exact hP _ _ _ _ _ (hp a) s h2 (den_at dv)) hX
end
theorem kint_ato {K : PySem.W.Frag} {C a : Addr} {ns : List Str} {ds : List Dat} (h : ICls K C) (hk : PySem.W.subIn K (.ref C) (.type "int") = some false) : KInt K (.at a (.obj C ns ds)) := fun M => ⟨_, .at (.obj h), kit_ty hk, fun h => nomatch h⟩
theorem c_bool_b {X : Cx} {M : Mem} {P : PK'} {k : Bool} (h : P (.bl k) M) : BC X (.type "bool") [.bl k] M P := bc_of call_bool1 fun G H vs hH dv Q hP => by
  obtain ⟨v, rfl, d⟩ := one_inv dv
  exact .inr ⟨k, by rw [d.bl_inv], hP _ _ _ _ _ h Stp.refl hH den_bl⟩
theorem atI_nat {α : Type} {xs : List α} {k : Nat} {x : α} (h : xs[k]? = some x) : atI xs (k : Int) = some x := by
  have hk : k < xs.length := (List.getElem?_eq_some_iff.mp h).1
  have e : ixN xs.length (k : Int) = some k := by
    unfold ixN
    simp [hk]
  unfold atI
  rw [e]; exact h
end Kh

set_option Elab.async false
set_option linter.all false
set_option maxRecDepth 100000
set_option maxHeartbeats 1000000
namespace Kh
open PySem PySem.Spec L2

/-! ### what a def computes, as a plain function: a value, an error, or out of what is told -/
inductive EK where
  | file | number | script | list | write | history | content | text | busy | closed
  deriving DecidableEq
/-- which own class -/
inductive OK where
  | file | full | keep | lean | dig | script | history | store | copier
  deriving DecidableEq
/-- a value of any kind; tag: the very object at an address -/
inductive Any where
  | non | bl (b : Bool) | int (i : Int) | str (s : Str) | lst (xs : List Any) | tup (xs : List Any) | dic | obj (k : OK) (fs : List Any) | tag (q : Addr) (x : Any) | cel (q : Addr)
mutual
def anyD (cl : OK → Addr × List Str) : Any → Dat
  | .non => .non
  | .bl b => .bl b
  | .int i => .int i
  | .str s => .str s
  | .lst xs => .lst (anyDL cl xs)
  | .tup xs => .tup (anyDL cl xs)
  | .dic => .dic0
  | .obj k fs => .obj (cl k).1 (cl k).2 (anyDL cl fs)
  | .tag q x => .at q (anyD cl x)
  | .cel q => .raw (.ref q)
def anyDL (cl : OK → Addr × List Str) : List Any → List Dat
  | [] => []
  | x :: xs => anyD cl x :: anyDL cl xs
end
theorem anyDL_map {cl : OK → Addr × List Str} : ∀ {xs : List Any}, anyDL cl xs = xs.map (anyD cl)
  | [] => by simp [anyDL]
  | x :: xs => by simp [anyDL, anyDL_map (xs := xs)]
structure Er where
  k : EK
  v : Any
inductive Res (α : Type) where
  | ok (a : α) | err (x : Er) | bad
  /-- whatever address is given out -/
  | all (f : Addr → Res α)
/-- how a turn of a loop ends -/
inductive Ctl (σ ρ : Type) where
  | nx (s : σ) | bk (s : σ) | rt (r : ρ)
namespace Res
def bind {α β : Type} : Res α → (α → Res β) → Res β
  | .ok a, k => k a
  | .err x, _ => .err x
  | .bad, _ => .bad
  | .all f, k => .all fun q => (f q).bind k
def Out {α : Type} : Res α → (α → Prop) → (Er → Prop) → Prop
  | .ok a, P, _ => P a
  | .err x, _, E => E x
  | .bad, _, _ => False
  | .all f, P, E => ∀ q, (f q).Out P E
/-- where nothing may be raised -/
def ne {α : Type} : Res α → Res α
  | .ok a => .ok a
  | .all f => .all fun q => (f q).ne
  | _ => .bad
end Res
section
variable {α β σ ρ : Type}
@[simp] theorem bind_ok {a : α} {k : α → Res β} : (Res.ok a).bind k = k a := rfl
@[simp] theorem bind_err {x : Er} {k : α → Res β} : (Res.err x).bind k = .err x := rfl
@[simp] theorem bind_bad {k : α → Res β} : (Res.bad).bind k = .bad := rfl
@[simp] theorem ne_ok {a : α} : (Res.ok a).ne = .ok a := rfl
@[simp] theorem bind_all {f : Addr → Res α} {k : α → Res β} : (Res.all f).bind k = .all fun q => (f q).bind k := rfl
theorem bind_bind {γ : Type} {k : α → Res β} {l : β → Res γ} : ∀ {m : Res α}, (m.bind k).bind l = m.bind fun a => (k a).bind l
  | .ok _ => rfl
  | .err _ => rfl
  | .bad => rfl
  | .all f => by
    show Res.all (fun q => ((f q).bind k).bind l) = Res.all fun q => (f q).bind fun a => (k a).bind l
    congr 1; funext q; exact bind_bind
theorem ob {k : α → Res β} {P : β → Prop} {E : Er → Prop} : ∀ {m : Res α}, (m.bind k).Out P E → m.Out (fun a => (k a).Out P E) E
  | .ok _, h => h
  | .err _, h => h
  | .bad, h => h
  | .all f, h => fun q => ob (m := f q) (h q)
theorem out_mono {P P' : α → Prop} {E E' : Er → Prop} : ∀ {m : Res α}, m.Out P E → (∀ a, P a → P' a) → (∀ x, E x → E' x) → m.Out P' E'
  | .ok _, h, hp, _ => hp _ h
  | .err _, h, _, he => he _ h
  | .bad, h, _, _ => h
  | .all f, h, hp, he => fun q => out_mono (m := f q) (h q) hp he
theorem ne_out {P : α → Prop} {E E' : Er → Prop} : ∀ {m : Res α}, m.ne.Out P E → m.Out P E'
  | .ok _, h => h
  | .err _, h => h.elim
  | .bad, h => h
  | .all f, h => fun q => ne_out (m := f q) (h q)
theorem out_ok {m : Res α} {a : α} {P : α → Prop} {E : Er → Prop} (e : m = .ok a) (h : P a) : m.Out P E := by rw [e]; exact h
theorem cif {c : Bool} {A B : Res α} {P : α → Prop} {E : Er → Prop} (h : (cond c A B).Out P E) {X Y : Prop} (a : A.Out P E → X) (b : B.Out P E → Y) : (c = true → X) ∧ (c = false → Y) := by
  cases c with
  | true => exact ⟨fun _ => a h, fun z => nomatch z⟩
  | false => exact ⟨(fun z => nomatch z), fun _ => b h⟩
/-- a condition that must hold -/
@[irreducible] def guard (c : Prop) [Decidable c] (a : α) : Res α := if c then .ok a else .bad
theorem gd {c : Prop} [Decidable c] {a : α} {P : α → Prop} {E : Er → Prop} (h : (guard c a).Out P E) : c ∧ P a := by
  unfold guard at h
  split at h
  · exact ⟨‹_›, h⟩
  · exact h.elim
theorem guard_ok {c : Prop} [Decidable c] {a : α} (h : c) : guard c a = .ok a := by unfold guard; exact if_pos h
/-! loops -/
def Ctl.go (k : σ → Res (Ctl σ ρ)) : Ctl σ ρ → Res (Ctl σ ρ)
  | .nx s => k s
  | .bk s => .ok (.nx s)
  | .rt r => .ok (.rt r)
def Ctl.fin (k : σ → Res β) (r : ρ → Res β) : Ctl σ ρ → Res β
  | .nx s => k s
  | .bk s => k s
  | .rt x => r x
def forR (f : σ → α → Res (Ctl σ ρ)) : List α → σ → Res (Ctl σ ρ)
  | [], s => .ok (.nx s)
  | x :: xs, s => (f s x).bind (Ctl.go (forR f xs))
def foldR (f : σ → α → Res σ) : List α → σ → Res σ
  | [], s => .ok s
  | x :: xs, s => (f s x).bind (foldR f xs)
@[simp] theorem foldR_nil {f : σ → α → Res σ} {s : σ} : foldR f [] s = .ok s := rfl
@[simp] theorem foldR_cons {f : σ → α → Res σ} {s : σ} {x : α} {xs : List α} : foldR f (x :: xs) s = (f s x).bind (foldR f xs) := rfl
@[simp] theorem forR_nil {f : σ → α → Res (Ctl σ ρ)} {s : σ} : forR f [] s = .ok (.nx s) := rfl
@[simp] theorem forR_cons {f : σ → α → Res (Ctl σ ρ)} {s : σ} {x : α} {xs : List α} : forR f (x :: xs) s = (f s x).bind (Ctl.go (forR f xs)) := rfl
@[simp] theorem go_nx {k : σ → Res (Ctl σ ρ)} {s : σ} : Ctl.go k (.nx s) = k s := rfl
@[simp] theorem go_bk {k : σ → Res (Ctl σ ρ)} {s : σ} : Ctl.go k (.bk s) = .ok (.nx s) := rfl
@[simp] theorem go_rt {k : σ → Res (Ctl σ ρ)} {r : ρ} : Ctl.go k (.rt r) = .ok (.rt r) := rfl
@[simp] theorem fin_nx {k : σ → Res β} {r : ρ → Res β} {s : σ} : Ctl.fin k r (.nx s) = k s := rfl
@[simp] theorem fin_bk {k : σ → Res β} {r : ρ → Res β} {s : σ} : Ctl.fin k r (.bk s) = k s := rfl
@[simp] theorem fin_rt {k : σ → Res β} {r : ρ → Res β} {x : ρ} : Ctl.fin k r (.rt x) = r x := rfl
def compL (f : α → Res (Option β)) : List α → Res (List β)
  | [] => .ok []
  | x :: xs => (f x).bind fun o => (compL f xs).bind fun r => .ok (o.toList ++ r)
def compR (f : α → Res (Option β)) (xs : List α) : Res (List β) := if xs.length ≤ sizeLine then (compL f xs).ne else .bad
/-- with a state -/
def compSL (f : σ → α → Res (Option β × σ)) : List α → σ → Res (List β × σ)
  | [], s => .ok ([], s)
  | x :: xs, s => (f s x).bind fun o => (compSL f xs o.2).bind fun r => .ok (o.1.toList ++ r.1, r.2)
def compS (f : σ → α → Res (Option β × σ)) (xs : List α) (s : σ) : Res (List β × σ) := if xs.length ≤ sizeLine then (compSL f xs s).ne else .bad
def andR (a b : Res Bool) : Res Bool := a.bind fun t => cond t b (.ok false)
def orR (a b : Res Bool) : Res Bool := a.bind fun t => cond t (.ok true) b
def notR (a : Res Bool) : Res Bool := a.bind fun t => .ok (!t)
@[simp] theorem andR_ok {a : Bool} {b : Res Bool} : andR (.ok a) b = cond a b (.ok false) := rfl
@[simp] theorem orR_ok {a : Bool} {b : Res Bool} : orR (.ok a) b = cond a (.ok true) b := rfl
@[simp] theorem notR_ok {a : Bool} : notR (.ok a) = .ok (!a) := rfl
@[simp] theorem cond_ok {c : Bool} {a b : α} : (cond c (Res.ok a) (.ok b)) = .ok (cond c a b) := by cases c <;> rfl
end

/-! ### values of types -/
abbrev lstD {α : Type} (e : α → Dat) (xs : List α) : Dat := .lst (xs.map e)
abbrev vtpD {α : Type} (e : α → Dat) (xs : List α) : Dat := .tup (xs.map e)
abbrev pairD {α β : Type} (e : α → Dat) (f : β → Dat) (p : α × β) : Dat := .tup [e p.1, f p.2]
abbrev tripD {α β γ : Type} (e : α → Dat) (f : β → Dat) (g : γ → Dat) (p : α × β × γ) : Dat := .tup [e p.1, f p.2.1, g p.2.2]
abbrev optD {α : Type} (e : α → Dat) : Option α → Dat
  | none => .non
  | some x => e x
abbrev untD (_ : Unit) : Dat := .non
/-- a sign as a text -/
abbrev chS (c : Nat) : Str := ⟨#[c]⟩
abbrev chD (c : Nat) : Dat := .str (chS c)
abbrev signsL (z : Str) : List Nat := z.cps.toList
def rangeL (lo : Int) (n : Nat) : List Int := (List.range n).map fun (i : Nat) => lo + (i : Int)
def rangeC (lo c : Int) (n : Nat) : List Int := (List.range n).map fun (i : Nat) => lo + (i : Int) * c
def enumL {α : Type} (xs : List α) : List (Int × α) := xs.zipIdx.map fun q => ((q.2 : Int), q.1)
theorem rngD_map {lo : Int} {n : Nat} : rngD lo n = (rangeL lo n).map Dat.int := by simp [rngD, rangeL]
theorem rngC_map {lo c : Int} {n : Nat} : rngC lo c n = (rangeC lo c n).map Dat.int := by simp [rngC, rangeC]
theorem enuD_map {α : Type} {e : α → Dat} {xs : List α} : enuD (xs.map e) = (enumL xs).map (pairD Dat.int e) := by
  simp [enuD, enumL, List.zipIdx_map, Function.comp_def]
/-! ### operations that want something -/
def small62 (j : Int) : Prop := -(2 ^ 62) ≤ j ∧ j < 2 ^ 62
instance {j : Int} : Decidable (small62 j) := inferInstanceAs (Decidable (_ ∧ _))
def pdiv (i j : Int) : Res Int := guard (0 < j ∧ j.natAbs.log2 < 9000) (i / j)
def pmod (i j : Int) : Res Int := guard (0 < j) (i % j)
def pmul (i j : Int) : Res Int := guard (i.natAbs.log2 + j.natAbs.log2 < 1000000) (i * j)
def pcat (a b : Str) : Res Str := guard (a.length + b.length ≤ sizeLine) (a ++ b)
def pcatL {α : Type} (a b : List α) : Res (List α) := guard (a.length + b.length ≤ sizeLine) (a ++ b)
def prepS (z : Str) (n : Int) : Res Str := guard ((-(2 ^ 63) ≤ n ∧ n < 2 ^ 63) ∧ z.length * n.toNat ≤ sizeLine) (repS z n)
def prepL {α : Type} (xs : List α) (n : Int) : Res (List α) := guard ((-(2 ^ 63) ≤ n ∧ n < 2 ^ 63) ∧ xs.length * n.toNat ≤ sizeLine) (List.replicate n.toNat xs).flatten
def pix {α : Type} (xs : List α) (i : Int) : Res α := match atI xs i with | some x => .ok x | none => .bad
def pixS (z : Str) (i : Int) : Res Nat := if z.length ≤ sizeLine then pix (signsL z) i else .bad
def pslS (z : Str) (lo hi : Option Int) : Res Str := guard (z.length ≤ sizeLine) (cutS z lo hi)
def plenS (z : Str) : Res Int := guard (z.length ≤ sizeLine) (z.length : Int)
def papp {α : Type} (xs : List α) (x : α) : Res (List α) := guard (xs.length < sizeLine) (xs ++ [x])
def prng1 (j : Int) : Res (List Int) := guard (small62 j) (rangeL 0 j.toNat)
def prng2 (i j : Int) : Res (List Int) := guard (small62 i ∧ small62 j) (rangeL i (j - i).toNat)
/-- a range upwards by a step -/
def prng3 (i j c : Int) : Res (List Int) := guard (small62 i ∧ small62 j ∧ 0 < c ∧ c < 1073741824) (rangeC i c ((j - i + c - 1) / c).toNat)
def pset {α : Type} (xs : List α) (i : Int) (x : α) : Res (List α) := match ixN xs.length i with | some j => .ok (xs.set j x) | none => .bad

section
variable {X : Cx} {T : Bool} {τ : TEnv} {M A B : Mem} {P : PK'} {E : XKx} {e a b c o : Expr} {es : List Expr} {pos p apos tpos : Pos} {α β σ ρ : Type} {E1 : Er → Prop} {q : Addr}
theorem r_div {i j : Int} {Q : Int → Prop} (h : (pdiv i j).Out Q E1) (hk : ∀ z, Q z → P (.int z) M) : OP X T (binaryOp .FloorDiv) (.int i) (.int j) M P := o_div (gd h).1 (hk _ (gd h).2)
theorem r_mod {i j : Int} {Q : Int → Prop} (h : (pmod i j).Out Q E1) (hk : ∀ z, Q z → P (.int z) M) : OP X T (binaryOp .Mod) (.int i) (.int j) M P := o_mod (gd h).1 (hk _ (gd h).2)
theorem r_mul {i j : Int} {Q : Int → Prop} (h : (pmul i j).Out Q E1) (hk : ∀ z, Q z → P (.int z) M) : OP X T (binaryOp .Mult) (.int i) (.int j) M P := o_mul (gd h).1 (hk _ (gd h).2)
theorem r_cat {i j : Str} {Q : Str → Prop} (h : (pcat i j).Out Q E1) (hk : ∀ z, Q z → P (.str z) M) : OP X T (binaryOp .Add) (.str i) (.str j) M P := o_cat (gd h).1 (hk _ (gd h).2)
theorem r_catL (f : α → Dat) {xs ys : List α} {Q : List α → Prop} (h : (pcatL xs ys).Out Q E1) (hk : ∀ z, Q z → P (lstD f z) M) : OP X T (binaryOp .Add) (lstD f xs) (lstD f ys) M P :=
  o_catL (by rw [List.length_map, List.length_map]; exact (gd h).1) (by rw [← List.map_append]; exact hk _ (gd h).2)
theorem r_repS {z : Str} {n : Int} {Q : Str → Prop} (h : (prepS z n).Out Q E1) (hk : ∀ z, Q z → P (.str z) M) : OP X T (binaryOp .Mult) (.str z) (.int n) M P := o_repS (gd h).1.1 (gd h).1.2 (hk _ (gd h).2)
theorem r_repL (f : α → Dat) {xs : List α} {n : Int} {Q : List α → Prop} (h : (prepL xs n).Out Q E1) (hk : ∀ z, Q z → P (lstD f z) M) : OP X T (binaryOp .Mult) (lstD f xs) (.int n) M P :=
  o_repL (gd h).1.1 (by rw [List.length_map]; exact (gd h).1.2) (by rw [← List.map_replicate, ← List.map_flatten]; exact hk _ (gd h).2)
theorem pix_out {xs : List α} {i : Int} {Q : α → Prop} (h : (pix xs i).Out Q E1) : ∃ x, atI xs i = some x ∧ Q x := by
  unfold pix at h
  cases e : atI xs i with
  | some x => rw [e] at h; exact ⟨x, rfl, h⟩
  | none => rw [e] at h; exact h.elim
theorem atI_map {f : α → β} {xs : List α} {i : Int} {x : α} (h : atI xs i = some x) : atI (xs.map f) i = some (f x) := by
  unfold atI at h ⊢
  rw [List.length_map]
  cases e : ixN xs.length i with
  | none => rw [e] at h; cases h
  | some j => rw [e] at h; simp only [Option.bind_some] at h ⊢; rw [List.getElem?_map, h]; rfl
theorem r_ix {K : PySem.W.Frag} (f : α → Dat) {xs : List α} {i : Int} {Q : α → Prop} (h : (pix xs i).Out Q E1) (hk : ∀ z, Q z → P (f z) M) : IQ K (lstD f xs) (.int i) M P :=
  let ⟨x, h1, h2⟩ := pix_out h; i_lst (atI_map h1) (hk x h2)
theorem r_ixT {K : PySem.W.Frag} (f : α → Dat) {xs : List α} {i : Int} {Q : α → Prop} (h : (pix xs i).Out Q E1) (hk : ∀ z, Q z → P (f z) M) : IQ K (vtpD f xs) (.int i) M P :=
  let ⟨x, h1, h2⟩ := pix_out h; i_tup (atI_map h1) (hk x h2)
theorem r_ixScr {K : PySem.W.Frag} {xs : List Int} {i : Int} {Q : Int → Prop} (h : (pix xs i).Out Q E1) (hk : ∀ z, Q z → P (.int z) M) : IQ K (.scr xs) (.int i) M P :=
  let ⟨x, h1, h2⟩ := pix_out h; i_scr h1 (hk x h2)
/-- in a cell behind the cells A -/
theorem r_ixC {K : PySem.W.Frag} (A : Mem) (f : α → Dat) {xs : List α} {i : Int} {Q : α → Prop} (h : (pix xs i).Out Q E1) (hk : ∀ z, Q z → P (f z) (A ++ (q, .lst (xs.map f)) :: B)) : IQ K (.raw (.ref q)) (.int i) (A ++ (q, .lst (xs.map f)) :: B) P :=
  let ⟨x, h1, h2⟩ := pix_out h; i_cell (List.mem_append_right _ List.mem_cons_self) (atI_map h1) (hk x h2)
theorem r_ixS {K : PySem.W.Frag} {z : Str} {i : Int} {Q : Nat → Prop} (h : (pixS z i).Out Q E1) (hk : ∀ c, Q c → P (chD c) M) : IQ K (.str z) (.int i) M P := by
  unfold pixS at h
  split at h
  · obtain ⟨x, h1, h2⟩ := pix_out h
    exact i_str ‹_› h1 (hk x h2)
  · exact h.elim
theorem r_slS {z : Str} {lo hi : Option Int} {Q : Str → Prop} (h : (pslS z lo hi).Out Q E1) (hk : ∀ z, Q z → P (.str z) M) : SQ X (.str z) lo hi M P := l_str (gd h).1 (hk _ (gd h).2)
theorem cutD_map {f : α → β} {xs : List α} {lo hi : Option Int} : cutD (xs.map f) lo hi = (cutD xs lo hi).map f := by
  unfold cutD; rw [List.length_map, List.map_take, List.map_drop]
theorem l_lstT (f : α → Dat) {xs : List α} {lo hi : Option Int} (h : P (lstD f (cutD xs lo hi)) M) : SQ X (lstD f xs) lo hi M P := l_lst (by rw [cutD_map]; exact h)
theorem l_scrT {xs : List Int} {lo hi : Option Int} (h : P (lstD Dat.int (cutD xs lo hi)) M) : SQ X (.scr xs) lo hi M P := l_scr h
theorem c_lenT (f : α → Dat) {xs : List α} (h : P (.int xs.length) M) : BC X (.builtin "len") [lstD f xs] M P := c_len_lst (by rw [List.length_map]; exact h)
theorem c_lenV (f : α → Dat) {xs : List α} (h : P (.int xs.length) M) : BC X (.builtin "len") [vtpD f xs] M P := c_len_tup (by rw [List.length_map]; exact h)
theorem c_lenC (A : Mem) (f : α → Dat) {xs : List α} (h : P (.int xs.length) (A ++ (q, .lst (xs.map f)) :: B)) : BC X (.builtin "len") [.raw (.ref q)] (A ++ (q, .lst (xs.map f)) :: B) P :=
  c_len_cell (List.mem_append_right _ List.mem_cons_self) (by rw [List.length_map]; exact h)
theorem r_lenS {z : Str} {Q : Int → Prop} (h : (plenS z).Out Q E1) (hk : ∀ z, Q z → P (.int z) M) : BC X (.builtin "len") [.str z] M P := c_len_str (gd h).1 (hk _ (gd h).2)
theorem c_minT {i j : Int} (h : P (.int (min i j)) M) (hc : X.calm = true := by rfl) : BC X (.builtin "min") [.int i, .int j] M P := c_min hc (by
  have e : (if j < i then j else i) = min i j := by omega
  rw [e]; exact h)
theorem c_maxT {i j : Int} (h : P (.int (max i j)) M) (hc : X.calm = true := by rfl) : BC X (.builtin "max") [.int i, .int j] M P := c_max hc (by
  have e : (if j > i then j else i) = max i j := by omega
  rw [e]; exact h)
theorem c_sumT {ns : List Int} (h : P (.int ns.sum) M) (hc : X.calm = true := by rfl) : BC X (.builtin "sum") [lstD Dat.int ns] M P := c_sum hc rfl h
theorem c_listT (f : α → Dat) {xs : List α} (h : P (lstD f xs) M) : BC X (.type "list") [lstD f xs] M P := c_list_lst h
theorem c_listV (f : α → Dat) {xs : List α} (h : P (lstD f xs) M) : BC X (.type "list") [vtpD f xs] M P := c_list_tup h
theorem c_tupT (f : α → Dat) {xs : List α} (h : P (vtpD f xs) M) : BC X (.type "tuple") [lstD f xs] M P := c_tuple_lst h
theorem hst_put {K : PySem.W.Frag} {G H H2 : Hp} {c' : MC} {c : MC} (h : Hst K G (A ++ (q, c) :: B) H) (hc : adr1 (q, c) = adr1 (q, c')) (hk : ∀ b, b ≠ q → H2 b = H b) (hn : MH K G H2 (q, c')) :
    Stp G (A ++ (q, c) :: B) H G (A ++ (q, c') :: B) H2 ∧ Hst K G (A ++ (q, c') :: B) H2 := cell_put h hc (by cases c <;> simp [adr1]) hk hn
theorem b_app (A : Mem) (f : α → Dat) {xs : List α} {x : α} {Q : List α → Prop} (h : (papp xs x).Out Q E1) (hk : ∀ ys, Q ys → P .non (A ++ (q, .lst (ys.map f)) :: B)) : BMr X "list.append" (.raw (.ref q)) [f x] (A ++ (q, .lst (xs.map f)) :: B) P := by
  obtain ⟨hl, hq⟩ := gd h
  refine ⟨rAppend, mt_append, fun G H v vs hH dv dvs Q hP => ?_⟩
  obtain ⟨u, r, rfl, du, t⟩ := dvs.cons_inv
  obtain rfl := t.nil_inv
  obtain ⟨ys, g, dx⟩ := hH.mem _ (List.mem_append_right _ List.mem_cons_self)
  rw [dv.raw_inv]
  obtain ⟨s2, h2⟩ := hst_put (c' := .lst ((xs ++ [x]).map f)) (H2 := upd H q (.lst (ys ++ [u]))) hH rfl (fun b hb => upd_ne hb) ⟨_, upd_same, by rw [List.map_append]; exact dx.snoc du⟩
  exact ⟨q, ys, u, rfl, rfl, g, by rw [dx.length, List.length_map]; exact hl, hP _ _ _ _ _ (hk _ hq) s2 h2 den_non⟩
theorem r_app (A : Mem) (f : α → Dat) {xs : List α} (h : EX X T o τ M (fun d M1 => d = .raw (.ref q) ∧ M1 = A ++ (q, .lst (xs.map f)) :: B ∧ EA X T (e :: es) τ M1 (fun ds M2 => BMr X "list.append" d ds M2 P) E) E)
    (hbase : attributeBase o "append" X.env (eval o X.env) = eval o X.env := by rfl)
    (hfew : ((backTo tpos (starEach (e :: es) X.env)).all (fun x => !x.1) && (backToKw tpos (keywordEach [] X.env)).all (fun x => x.1.isSome) && decide ((e :: es).length + ([] : List Keyword).length + (if ([] : List Keyword).isEmpty then 0 else 1) < 30)) = true := by rfl)
    (hline : (apos.endLine == tpos.line) = true := by rfl) (hs : starEach (e :: es) X.env = (false, eval e X.env) :: starEach es X.env := by rfl) (hplain : (backTo tpos (starEach es X.env)).any (·.1) = false := by rfl) :
    EX X T (.Call (.Attribute o "append" apos) (e :: es) [] tpos) τ M P E := ex_append (h.imp (fun d M1 ⟨e1, e2, e3⟩ => ⟨by rw [e1, e2]; exact .cell (List.mem_append_right _ List.mem_cons_self), e3⟩) fun _ _ x => x) hbase hfew hline hs hplain
/-! calls -/
theorem outU {m : Res α} {f : α → Dat} {ex : Er → Exn} {Q : α → Prop} (h : m.Out Q E1) (hk : ∀ r, Q r → P (f r) M) (hx : ∀ x, E1 x → E (ex x) M) : m.Out (fun r => UpP P (f r) M) (fun x => UpP E (ex x) M) :=
  out_mono h (fun r q => UpP.mk (hk r q)) fun x q => UpP.mk (hx x q)
/-- a test as a value of a def -/
theorem outB {m : Res Bool} {ex : Er → Exn} {Q : Bool → Prop} {Pb : Bool → Prop} (h : m.Out Q E1) (hk : ∀ r, Q r → Pb r) (hx : ∀ x, E1 x → E (ex x) M) : m.Out (fun r => UpP (fun (d : Dat) (_ : Mem) => ∃ k, d = Dat.bl k ∧ Pb k) (Dat.bl r) M) (fun x => UpP E (ex x) M) :=
  out_mono h (fun r q => UpP.mk ⟨r, rfl, hk r q⟩) fun x q => UpP.mk (hx x q)
theorem outN {m : Res α} {f : α → Dat} {Q : α → Prop} (h : m.Out Q E1) (hk : ∀ r, Q r → P (f r) M) (hx : ∀ x, E1 x → False) {ex : Er → Exn} : m.Out (fun r => UpP P (f r) M) (fun x => UpP E (ex x) M) :=
  out_mono h (fun r q => UpP.mk (hk r q)) fun x q => (hx x q).elim
end

/-! ### a def's ends: what it made itself is left behind -/
def retD (P : PK') (E : XKx) : RK
  | .rt d, M => ∃ A B, M.Perm (A ++ B) ∧ P d A
  | .nx _, M => ∃ A B, M.Perm (A ++ B) ∧ P .non A
  | .ex x _, M => ∃ A B, M.Perm (A ++ B) ∧ E x A
  | _, _ => False
theorem csD {K : PySem.W.Frag} {G H : Hp} {M : Mem} {P : PK'} {E : XKx} {D : Ends} {W : WX} (h : CS' K G M H (retR P E) D W) : CS' K G M H (retD P E) D W := fun o M2 G2 H2 r s h2 => by
  cases o with
  | nx τ => obtain ⟨A, B, pm, r⟩ := r; exact h (.nx τ) A G2 H2 r (s.perm (List.Perm.refl _) pm).drop (h2.perm pm).drop
  | rt d => obtain ⟨A, B, pm, r⟩ := r; exact h (.rt d) A G2 H2 r (s.perm (List.Perm.refl _) pm).drop (h2.perm pm).drop
  | ex x τ => obtain ⟨A, B, pm, r⟩ := r; exact h (.ex x τ) A G2 H2 r (s.perm (List.Perm.refl _) pm).drop (h2.perm pm).drop
  | bk τ => exact r.elim
  | ct τ => exact r.elim
theorem WS.ends {X : Cx} {T : Bool} {τ : TEnv} {M : Mem} {P : PK'} {E : XKx} {ss : List Stmt} (h : WS X T ss τ M (retD P E)) : WS X T ss τ M (retR P E) := .mk fun W tk σ G H hE hH D hR => h.run W tk σ G H hE hH D (csD hR)
/-- dropped at an end: the cells L, made here -/
theorem dN {M : Mem} (L : Mem) {d : Dat} {P : PK'} (h : P d M) : ∃ A B, (L ++ M).Perm (A ++ B) ∧ P d A := ⟨M, L, List.perm_append_comm, h⟩
theorem dX {M : Mem} (L : Mem) {x : Exn} {E : XKx} (h : E x M) : ∃ A B, (L ++ M).Perm (A ++ B) ∧ E x A := ⟨M, L, List.perm_append_comm, h⟩

/-! ### ifs and loops by what they compute -/
section
variable {X : Cx} {T : Bool} {τ : TEnv} {M : Mem} {P : PK'} {E : XKx} {t e iter tg : Expr} {p q body rest : List Stmt} {pos : Pos} {α β σ ρ : Type} {E1 : Er → Prop} {R : RK}
/-- a value by itself, its reading goes on behind it -/
theorem exJ {m : Res α} (f : α → Dat) {Q : α → Prop} (h : m.Out Q E1) (he : m.Out Q E1 → EX X T e τ M (fun d M1 => M1 = M ∧ ∃ v, d = f v ∧ Q v) E) (hk : ∀ v, Q v → P (f v) M) : EX X T e τ M P E :=
  (he h).imp (fun d M1 ⟨e1, v, e2, q⟩ => by rw [e1, e2]; exact hk v q) fun _ _ x => x
theorem etJ {m : Res Bool} {Q : Bool → Prop} {Pb : Bool → Mem → Prop} (h : m.Out Q E1) (he : m.Out Q E1 → ET X T e τ M (fun k M1 => M1 = M ∧ Q k) E) (hk : ∀ v, Q v → Pb v M) : ET X T e τ M Pb E :=
  (he h).imp (fun k M1 ⟨e1, q⟩ => by rw [e1]; exact hk k q) fun _ _ x => x
theorem ws_ifJ {m : Res σ} {Q : σ → Prop} (JJ : (σ → Prop) → TEnv → Mem → Prop) (h : m.Out Q E1)
    (hif : m.Out Q E1 → ET X T t τ M (fun k M1 => (k = true → WS X T p τ M1 (thenR (JJ Q) R)) ∧ (k = false → WS X T q τ M1 (thenR (JJ Q) R))) (fun x M1 => R (.ex x τ) M1))
    (hk : ∀ τ' M', JJ Q τ' M' → WS X T rest τ' M' R) : WS X T (.If t p q pos :: rest) τ M R :=
  ws_if ((hif h).imp (fun k M1 ⟨h1, h2⟩ => ⟨fun e => (h1 e).imp fun o M2 r => by cases o <;> first | exact hk _ _ r | exact r, fun e => (h2 e).imp fun o M2 r => by cases o <;> first | exact hk _ _ r | exact r⟩) fun _ _ x => x)
/-- what a loop over ds wants; what a comprehension over ds wants -/
def ForQ (X : Cx) (T : Bool) (tg : Expr) (body rest : List Stmt) (τ : TEnv) (R : RK) (ds : List Dat) (M1 : Mem) (Ok : Mem → Prop) : Prop :=
  ∃ I : Nat → TEnv → Mem → Prop, I 0 τ M1 ∧ (∀ i τ M, I i τ M → Ok M) ∧
      (∀ i d τ M, ds[i]? = some d → I i τ M → GX X T tg d τ M (fun τ2 M2 => WS X T body τ2 M2 (loopR (I (i + 1)) (fun τ M => WS X T rest τ M R) R)) (fun x M2 => R (.ex x τ) M2)) ∧
      (∀ τ M, I ds.length τ M → WS X T rest τ M R)
def LcQ (X : Cx) (scope : Scope) (vs : List Nat) (tg : Expr) (ifs : List Expr) (elt : Expr) (τ : TEnv) (ds : List Dat) (M1 : Mem) (Ok : Mem → Prop) (P : PK') : Prop :=
  ds.length ≤ sizeLine ∧ ∃ I : Nat → List Dat → Mem → Prop, I 0 [] M1 ∧ (∀ i acc M, I i acc M → Ok M) ∧
      (∀ i d acc M, ds[i]? = some d → I i acc M → ∀ (s : Shared) (H : Hp) (C : Addr) (cl : List (Str × Addr)) (fp : List Addr), GC (Cx.Bk X scope s H C cl fp) vs tg d (wipeT τ vs) M (fun τ2 M2 => ∀ (s : Shared) (H : Hp) (C : Addr) (cl : List (Str × Addr)) (fp : List Addr),
        EFs (Cx.Bk X scope s H C cl fp) ifs τ2 M2 (fun b M3 => (b = true → ∀ (s : Shared) (H : Hp) (C : Addr) (cl : List (Str × Addr)) (fp : List Addr), EX (Cx.Bk X scope s H C cl fp) false elt τ2 M3 (fun y M4 => I (i + 1) (acc ++ [y]) M4) E0') ∧ (b = false → I (i + 1) acc M3)))) ∧
      (∀ acc M, I ds.length acc M → P (.lst acc) M)
theorem ws_forT (hi : EI X tg iter τ M (fun ds M1 Ok => ForQ X T tg body rest τ R ds M1 Ok) (fun x M1 => R (.ex x τ) M1))
    (hp : PassesOwn (model X.prog X.w) X.A X.env X.xe := by first | exact PassesOwn.never | exact passes_of rfl | assumption) (hc : X.calm = true := by rfl) (hs : ∀ x, foldedSetIterable iter X.env x = pure x := by intro _; rfl) : WS X T (.For tg iter body [] pos :: rest) τ M R := ws_for hi hp hc hs
theorem ex_lcT {scope : Scope} {ifs : List Expr} {elt : Expr} (own : List (Str × Nat)) (h : EI X tg iter τ M (fun ds M1 Ok => LcQ X scope (own.map (·.2)) tg ifs elt τ ds M1 Ok P) E)
    (ok : BlkOk X.N X.env.scope scope own := by exact blkOk_by (by first | decide +kernel | kernel_rfl)) (hN : X.N.Nodup := by first | decide +kernel | exact of_decide_eq_true (by kernel_rfl)) (hc : X.calm = true := by rfl) (hs : ∀ x, foldedSetIterable iter X.env x = pure x := by intro _; rfl) :
    EX X T (.ListComp elt [⟨tg, iter, ifs, 0⟩] scope pos) τ M P E := ex_lc own h ok hN hc hs
theorem ws_setLcT {x : Str} {px : Pos} {scope : Scope} {ifs : List Expr} {elt : Expr} {lpos : Pos} (own : List (Str × Nat)) (h : EI X tg iter τ M (fun ds M1 Ok => LcQ X scope (own.map (·.2)) tg ifs elt τ ds M1 Ok (fun d M => WS X T rest (τ.set (ixIn X.N x) (some d)) M R)) (fun x M1 => R (.ex x τ) M1))
    (hi : X.N[ixIn X.N x]? = some x := by rfl) (hyl : X.env.scope.names.lookup x = some .local := by rfl) (hsw : swapsWith (.ListComp elt [⟨tg, iter, ifs, 0⟩] scope lpos) (some (.Name x px)) pos.line X.env = pure true := by exact sw_true rfl rfl rfl (by first | decide +kernel | kernel_rfl))
    (ok : BlkOk X.N X.env.scope scope own := by exact blkOk_by (by first | decide +kernel | kernel_rfl)) (hN : X.N.Nodup := by first | decide +kernel | exact of_decide_eq_true (by kernel_rfl)) (hc : X.calm = true := by rfl) (hs : ∀ x, foldedSetIterable iter X.env x = pure x := by intro _; rfl) :
    WS X T (.Assign [.Name x px] (.ListComp elt [⟨tg, iter, ifs, 0⟩] scope lpos) pos :: rest) τ M R := ws_setLc own h hi hyl hsw ok hN hc hs
theorem GX.impP {X : Cx} {T : Bool} {tg : Expr} {d : Dat} {τ : TEnv} {M : Mem} {Pg Pg' : TEnv → Mem → Prop} {Eg : XKx} (hp : ∀ τ M, Pg τ M → Pg' τ M) (hg : GX X T tg d τ M Pg Eg) : GX X T tg d τ M Pg' Eg :=
  .mk fun W tk σ G H v hE hH dv Q hP hX => hg.run W tk σ G H v hE hH dv Q (fun τ2 M2 G2 H2 σ2 r => hP τ2 M2 G2 H2 σ2 (hp _ _ r)) hX
theorem GC.impP {X : Cx} {vs : List Nat} {tg : Expr} {d : Dat} {τ : TEnv} {M : Mem} {Pg Pg' : TEnv → Mem → Prop} (hp : ∀ τ M, Pg τ M → Pg' τ M) (hg : GC X vs tg d τ M Pg) : GC X vs tg d τ M Pg' :=
  fun σ G H v hE hH dv Q hQ => hg σ G H v hE hH dv Q fun τ' M' G' H' σ' r => hQ τ' M' G' H' σ' (hp _ _ r)
theorem foldT {xs : List α} (f : α → Dat) {g : σ → α → Res σ} {s0 : σ} {M1 : Mem} {Ok : Mem → Prop} (J : σ → TEnv → Mem → Prop) {Q : σ → Prop} (h : (foldR g xs s0).Out Q E1) (h0 : J s0 τ M1) (hOk : ∀ s τ M, J s τ M → Ok M)
    (step : ∀ x s τ M (N : σ → Prop), J s τ M → (g s x).Out N E1 → GX X T tg (f x) τ M (fun τ2 M2 => WS X T body τ2 M2 (loopR (fun τ M => ∃ s, J s τ M ∧ N s) (fun τ M => WS X T rest τ M R) R)) (fun x M2 => R (.ex x τ) M2))
    (fin : ∀ s τ M, J s τ M → Q s → WS X T rest τ M R) :
    ForQ X T tg body rest τ R (xs.map f) M1 Ok := by
  refine ⟨fun i τ M => ∃ s, J s τ M ∧ (foldR g (xs.drop i) s).Out Q E1, ⟨s0, h0, h⟩, fun i τ M ⟨s, h1, _⟩ => hOk s τ M h1, ?_, ?_⟩
  · rintro i d τ M hd ⟨s, h1, h2⟩
    rw [List.getElem?_map] at hd
    obtain ⟨x, hx, rfl⟩ := Option.map_eq_some_iff.mp hd
    obtain ⟨hi, rfl⟩ := List.getElem?_eq_some_iff.mp hx
    rw [List.drop_eq_getElem_cons hi] at h2
    exact step _ s τ M _ h1 (ob h2)
  · rintro τ M ⟨s, h1, h2⟩
    rw [List.length_map, List.drop_length] at h2
    exact fin s τ M h1 h2
theorem forT {xs : List α} (f : α → Dat) {g : σ → α → Res (Ctl σ ρ)} {s0 : σ} {M1 : Mem} {Ok : Mem → Prop} (J : σ → TEnv → Mem → Prop) {Q : Ctl σ ρ → Prop} (h : (forR g xs s0).Out Q E1) (h0 : J s0 τ M1) (hOk : ∀ s τ M, J s τ M → Ok M)
    (step : ∀ x s τ M (N : Ctl σ ρ → Prop), J s τ M → (g s x).Out N E1 → (∀ r, N (.rt r) → Q (.rt r)) → GX X T tg (f x) τ M (fun τ2 M2 => WS X T body τ2 M2 (loopR (fun τ M => ∃ s, J s τ M ∧ N (.nx s)) (fun τ M => ∃ s, J s τ M ∧ N (.bk s)) R)) (fun x M2 => R (.ex x τ) M2))
    (fin : ∀ s τ M, J s τ M → Q (.nx s) → WS X T rest τ M R) :
    ForQ X T tg body rest τ R (xs.map f) M1 Ok := by
  refine ⟨fun i τ M => ∃ s, J s τ M ∧ (forR g (xs.drop i) s).Out Q E1, ⟨s0, h0, h⟩, fun i τ M ⟨s, h1, _⟩ => hOk s τ M h1, ?_, ?_⟩
  · rintro i d τ M hd ⟨s, h1, h2⟩
    rw [List.getElem?_map] at hd
    obtain ⟨x, hx, rfl⟩ := Option.map_eq_some_iff.mp hd
    obtain ⟨hi, rfl⟩ := List.getElem?_eq_some_iff.mp hx
    rw [List.drop_eq_getElem_cons hi] at h2
    refine GX.impP (fun τ2 M2 hw => ?_) (step _ s τ M _ h1 (ob h2) fun r z => z)
    refine hw.imp fun o M3 r => ?_
    cases o with
    | nx τ3 => exact r
    | ct τ3 => exact r
    | bk τ3 => obtain ⟨s3, j3, q3⟩ := r; exact fin s3 τ3 M3 j3 q3
    | rt d => exact r
    | ex x τ3 => exact r
  · rintro τ M ⟨s, h1, h2⟩
    rw [List.length_map, List.drop_length] at h2
    exact fin s τ M h1 h2
/-- the tuple that a comprehension wants -/
theorem compT {xs : List α} (f : α → Dat) (f2 : β → Dat) {g : α → Res (Option β)} {M1 : Mem} {Ok : Mem → Prop} {vs : List Nat} {scope : Scope} {ifs : List Expr} {elt : Expr} {Q : List β → Prop} (h : (compR g xs).Out Q E1) (hOk : Ok M1)
    (step : ∀ x (N : Option β → Prop), (g x).Out N (fun _ => False) → ∀ (s : Shared) (H : Hp) (C : Addr) (cl : List (Str × Addr)) (fp : List Addr), GC (Cx.Bk X scope s H C cl fp) vs tg (f x) (wipeT τ vs) M1 (fun τ2 M2 => ∀ (s : Shared) (H : Hp) (C : Addr) (cl : List (Str × Addr)) (fp : List Addr),
        EFs (Cx.Bk X scope s H C cl fp) ifs τ2 M2 (fun b M3 => (b = true → ∀ (s : Shared) (H : Hp) (C : Addr) (cl : List (Str × Addr)) (fp : List Addr), EX (Cx.Bk X scope s H C cl fp) false elt τ2 M3 (fun y M4 => M4 = M1 ∧ ∃ v, y = f2 v ∧ N (some v)) E0') ∧ (b = false → M3 = M1 ∧ N none))))
    (fin : ∀ ys, Q ys → P (lstD f2 ys) M1) :
    LcQ X scope vs tg ifs elt τ (xs.map f) M1 Ok P := by
  unfold compR at h
  split at h
  case isFalse => exact h.elim
  rename_i hl
  have h : (compL g xs).Out Q (fun _ => False) := ne_out h
  refine ⟨by rw [List.length_map]; exact hl, fun i acc M => M = M1 ∧ ∃ ys : List β, acc = ys.map f2 ∧ (compL g (xs.drop i)).Out (fun r => Q (ys ++ r)) (fun _ => False), ⟨rfl, [], rfl, h⟩, fun i acc M ⟨e, _⟩ => by rw [e]; exact hOk, ?_, ?_⟩
  · rintro i d acc M hd ⟨rfl, ys, rfl, h2⟩ s H C cl fp
    rw [List.getElem?_map] at hd
    obtain ⟨x, hx, rfl⟩ := Option.map_eq_some_iff.mp hd
    obtain ⟨hi, rfl⟩ := List.getElem?_eq_some_iff.mp hx
    rw [List.drop_eq_getElem_cons hi] at h2
    refine GC.impP (fun τ2 M2 hw => ?_) (step _ _ (ob h2) s H C cl fp)
    intro s H C cl fp σ G H' hE hH Q' hQ
    refine hw s H C cl fp σ G H' hE hH Q' fun b M3 G3 H3 ⟨p1, p2⟩ s3 h3 => hQ b M3 G3 H3 ⟨fun eb s H C cl fp => ?_, fun eb => ?_⟩ s3 h3
    · refine (p1 eb s H C cl fp).imp (fun y M4 ⟨e4, v, ev, hv⟩ => ?_) fun _ _ x => x
      subst ev
      refine ⟨e4, ys ++ [v], by simp, ?_⟩
      have hv := ob hv
      refine out_mono hv (fun r q => ?_) fun _ z => z
      have : Q (ys ++ ((some v).toList ++ r)) := q
      simpa using this
    · obtain ⟨e3, hv⟩ := p2 eb
      refine ⟨e3, ys, rfl, ?_⟩
      exact out_mono (ob hv) (fun r q => by have : Q (ys ++ ((none : Option β).toList ++ r)) := q; simpa using this) fun _ z => z
  · rintro acc M ⟨rfl, ys, rfl, h2⟩
    rw [List.length_map, List.drop_length] at h2
    have : Q (ys ++ []) := h2
    rw [List.append_nil] at this
    exact fin ys this
end
/-! tests by what they compute -/
section
variable {X : Cx} {T : Bool} {τ : TEnv} {M : Mem} {E : XKx} {a b : Expr} {rest : List Expr} {pos : Pos} {E1 : Er → Prop} {Q : Bool → Prop}
theorem ewA {ma mb : Res Bool} (h : (andR ma mb).Out Q E1) (ha : ∀ Q', ma.Out Q' E1 → ET X T a τ M (fun k M1 => M1 = M ∧ Q' k) E) (hb : mb.Out Q E1 → EW X T (.BoolOp .And (b :: rest) pos) τ M (fun k M1 => M1 = M ∧ Q k) E) :
    EW X T (.BoolOp .And (a :: b :: rest) pos) τ M (fun k M1 => M1 = M ∧ Q k) E :=
  ew_and ((ha _ (ob h)).imp (fun k M1 ⟨e, q⟩ => by
    subst e
    cases k with
    | true => exact ⟨fun _ => hb q, fun z => nomatch z⟩
    | false => exact ⟨(fun z => nomatch z), fun _ => ⟨rfl, q⟩⟩) fun _ _ x => x)
theorem ewO {ma mb : Res Bool} (h : (orR ma mb).Out Q E1) (ha : ∀ Q', ma.Out Q' E1 → ET X T a τ M (fun k M1 => M1 = M ∧ Q' k) E) (hb : mb.Out Q E1 → EW X T (.BoolOp .Or (b :: rest) pos) τ M (fun k M1 => M1 = M ∧ Q k) E) :
    EW X T (.BoolOp .Or (a :: b :: rest) pos) τ M (fun k M1 => M1 = M ∧ Q k) E :=
  ew_or ((ha _ (ob h)).imp (fun k M1 ⟨e, q⟩ => by
    subst e
    cases k with
    | true => exact ⟨fun _ => ⟨rfl, q⟩, fun z => nomatch z⟩
    | false => exact ⟨(fun z => nomatch z), fun _ => hb q⟩) fun _ _ x => x)
theorem etN {ma : Res Bool} (h : (notR ma).Out Q E1) (ha : ∀ Q', ma.Out Q' E1 → ET X T a τ M (fun k M1 => M1 = M ∧ Q' k) E) : ET X T (.UnaryOp .Not a pos) τ M (fun k M1 => M1 = M ∧ Q k) E :=
  et_not ((ha _ (ob h)).imp (fun k M1 ⟨e, q⟩ => ⟨e, q⟩) fun _ _ x => x)
theorem exA {ma mb : Res Bool} (h : (andR ma mb).Out Q E1) (ha : ∀ Q', ma.Out Q' E1 → EX X T a τ M (fun d M1 => M1 = M ∧ ∃ k, d = .bl k ∧ Q' k) E) (hb : mb.Out Q E1 → EX X T (.BoolOp .And (b :: rest) pos) τ M (fun d M1 => M1 = M ∧ ∃ k, d = .bl k ∧ Q k) E) :
    EX X T (.BoolOp .And (a :: b :: rest) pos) τ M (fun d M1 => M1 = M ∧ ∃ k, d = .bl k ∧ Q k) E :=
  ex_and ((ha _ (ob h)).imp (fun d M1 ⟨e, k, ek, q⟩ => by
    subst e
    refine ⟨k, ek, ?_⟩
    cases k with
    | true => exact ⟨fun _ => hb q, fun z => nomatch z⟩
    | false => exact ⟨(fun z => nomatch z), fun _ => ⟨rfl, _, rfl, q⟩⟩) fun _ _ x => x)
theorem exO {ma mb : Res Bool} (h : (orR ma mb).Out Q E1) (ha : ∀ Q', ma.Out Q' E1 → EX X T a τ M (fun d M1 => M1 = M ∧ ∃ k, d = .bl k ∧ Q' k) E) (hb : mb.Out Q E1 → EX X T (.BoolOp .Or (b :: rest) pos) τ M (fun d M1 => M1 = M ∧ ∃ k, d = .bl k ∧ Q k) E) :
    EX X T (.BoolOp .Or (a :: b :: rest) pos) τ M (fun d M1 => M1 = M ∧ ∃ k, d = .bl k ∧ Q k) E :=
  ex_or ((ha _ (ob h)).imp (fun d M1 ⟨e, k, ek, q⟩ => by
    subst e
    refine ⟨k, ek, ?_⟩
    cases k with
    | true => exact ⟨fun _ => ⟨rfl, _, rfl, q⟩, fun z => nomatch z⟩
    | false => exact ⟨(fun z => nomatch z), fun _ => hb q⟩) fun _ _ x => x)
end
end Kh

set_option Elab.async false
set_option linter.all false
set_option maxRecDepth 100000
set_option maxHeartbeats 1000000
namespace Kh
open PySem PySem.Spec L2

/-! ### data that is compared by its parts -/
structure PyE {α : Type} (e : α → Dat) [DecidableEq α] where
  ok : α → Bool
  py : α → PyData
  dep : Nat
  to : ∀ a, toPy (e a) = some (py a)
  lay : ∀ a, ok a = true → (py a).canLay0 = true
  dp : ∀ a, (py a).depth ≤ dep
  eqv : ∀ a b, PyData.eqv (py a) (py b) = decide (a = b)
def pyI : PyE Dat.int := ⟨fun _ => true, .int, 0, fun a => by simp [toPy], fun _ _ => by simp [PyData.canLay0], fun _ => by simp [PyData.depth], fun a b => by simp only [PyData.eqv]; rw [Bool.eq_iff_iff]; simp⟩
def pyB : PyE Dat.bl := ⟨fun _ => true, .bool, 0, fun a => by simp [toPy], fun _ _ => by simp [PyData.canLay0], fun _ => by simp [PyData.depth], fun a b => by simp only [PyData.eqv]; rw [Bool.eq_iff_iff]; simp⟩
def pyN : PyE untD := ⟨fun _ => true, fun _ => .none, 0, fun a => by simp [toPy], fun _ _ => by simp [PyData.canLay0], fun _ => by simp [PyData.depth], fun a b => by simp [PyData.eqv]⟩
def pyS : PyE Dat.str := ⟨fun z => z.cps.all (· < 0x110000), .str, 0, fun a => by simp [toPy], fun a h => by simpa [PyData.canLay0, PyData.strOk] using h, fun _ => by simp [PyData.depth], fun a b => by simp only [PyData.eqv]; rw [Bool.eq_iff_iff]; simp⟩
theorem chS_inj {a b : Nat} : chS a = chS b ↔ a = b := ⟨fun h => by injection h with h; simpa using h, fun h => by rw [h]⟩
def pyC : PyE chD := ⟨fun c => decide (c < 0x110000), fun c => .str (chS c), 0, fun a => by simp [toPy], fun a h => by simpa [PyData.canLay0, PyData.strOk] using h, fun _ => by simp [PyData.depth], fun a b => by
  simp only [PyData.eqv]; rw [Bool.eq_iff_iff]; simp [chS_inj]⟩
section
variable {α β γ : Type} {e : α → Dat} {f : β → Dat} {g : γ → Dat} [DecidableEq α] [DecidableEq β] [DecidableEq γ]
theorem toPyL_map (p : PyE e) : ∀ xs : List α, toPyL (xs.map e) = some (xs.map p.py)
  | [] => by simp [toPyL]
  | x :: xs => by simp [toPyL, p.to x, toPyL_map p xs]
theorem layL (p : PyE e) : ∀ xs : List α, xs.all p.ok = true → PyData.canLayAll0 (xs.map p.py) = true
  | [], _ => by simp [PyData.canLayAll0]
  | x :: xs, h => by
    rw [List.all_cons, Bool.and_eq_true] at h
    simp only [List.map_cons, PyData.canLayAll0, Bool.and_eq_true]
    exact ⟨p.lay x h.1, layL p xs h.2⟩
theorem depL (p : PyE e) : ∀ xs : List α, PyData.depthAll (xs.map p.py) ≤ p.dep
  | [] => by simp [PyData.depthAll]
  | x :: xs => by
    simp only [List.map_cons, PyData.depthAll]
    exact Nat.max_le.mpr ⟨p.dp x, depL p xs⟩
theorem eqvL (p : PyE e) : ∀ xs ys : List α, PyData.eqvAll (xs.map p.py) (ys.map p.py) = decide (xs = ys)
  | [], [] => by simp [PyData.eqvAll]
  | [], _ :: _ => by simp [PyData.eqvAll]
  | _ :: _, [] => by simp [PyData.eqvAll]
  | x :: xs, y :: ys => by
    simp only [List.map_cons, PyData.eqvAll, p.eqv, eqvL p xs ys]
    rw [Bool.eq_iff_iff]; simp
def pyL (p : PyE e) : PyE (lstD e) := ⟨fun xs => xs.all p.ok, fun xs => .list (xs.map p.py), p.dep + 1, fun xs => by simp [toPy, toPyL_map p], fun xs h => by simp only [PyData.canLay0]; exact layL p xs h, fun xs => by
  simp only [PyData.depth]; have := depL p xs; omega, fun xs ys => by simp only [PyData.eqv]; exact eqvL p xs ys⟩
def pyV (p : PyE e) : PyE (vtpD e) := ⟨fun xs => xs.all p.ok, fun xs => .tuple (xs.map p.py), p.dep + 1, fun xs => by simp [toPy, toPyL_map p], fun xs h => by simp only [PyData.canLay0]; exact layL p xs h, fun xs => by
  simp only [PyData.depth]; have := depL p xs; omega, fun xs ys => by simp only [PyData.eqv]; exact eqvL p xs ys⟩
def py2 (p : PyE e) (q : PyE f) : PyE (pairD e f) := ⟨fun x => p.ok x.1 && q.ok x.2, fun x => .tuple [p.py x.1, q.py x.2], max p.dep q.dep + 1, fun x => by simp [toPy, toPyL, p.to, q.to], fun x h => by
  rw [Bool.and_eq_true] at h; simp only [PyData.canLay0, PyData.canLayAll0, Bool.and_eq_true]; exact ⟨p.lay _ h.1, q.lay _ h.2, trivial⟩, fun x => by
  simp only [PyData.depth, PyData.depthAll]; have := p.dp x.1; have := q.dp x.2; omega, fun x y => by
  obtain ⟨a, b⟩ := x; obtain ⟨c, d⟩ := y; simp only [PyData.eqv, PyData.eqvAll, p.eqv, q.eqv]; rw [Bool.eq_iff_iff]; simp⟩
def py3 (p : PyE e) (q : PyE f) (r : PyE g) : PyE (tripD e f g) := ⟨fun x => p.ok x.1 && (q.ok x.2.1 && r.ok x.2.2), fun x => .tuple [p.py x.1, q.py x.2.1, r.py x.2.2], max p.dep (max q.dep r.dep) + 1, fun x => by simp [toPy, toPyL, p.to, q.to, r.to], fun x h => by
  simp only [Bool.and_eq_true] at h; simp only [PyData.canLay0, PyData.canLayAll0, Bool.and_eq_true]; exact ⟨p.lay _ h.1, q.lay _ h.2.1, r.lay _ h.2.2, trivial⟩, fun x => by
  simp only [PyData.depth, PyData.depthAll]; have := p.dp x.1; have := q.dp x.2.1; have := r.dp x.2.2; omega, fun x y => by
  obtain ⟨a, b, c⟩ := x; obtain ⟨a', b', c'⟩ := y; simp only [PyData.eqv, PyData.eqvAll, p.eqv, q.eqv, r.eqv]; rw [Bool.eq_iff_iff]; simp⟩
/-- None, or data that is no None -/
def pyO (p : PyE e) (hn : ∀ a, PyData.eqv (p.py a) .none = false ∧ PyData.eqv .none (p.py a) = false) : PyE (optD e) := ⟨fun x => match x with | none => true | some a => p.ok a, fun x => match x with | none => .none | some a => p.py a, p.dep,
  fun x => by cases x <;> simp [optD, toPy, p.to], fun x h => by cases x with | none => simp [PyData.canLay0] | some a => exact p.lay a h, fun x => by cases x with | none => simp [PyData.depth] | some a => exact p.dp a, fun x y => by
  cases x with
  | none => cases y with
    | none => simp [PyData.eqv]
    | some b => show PyData.eqv .none (p.py b) = _; rw [(hn b).2]; simp
  | some a => cases y with
    | none => show PyData.eqv (p.py a) .none = _; rw [(hn a).1]; simp
    | some b => show PyData.eqv (p.py a) (p.py b) = _; rw [p.eqv]; simp⟩
end
section
variable {X : Cx} {T : Bool} {τ : TEnv} {M A B : Mem} {P : PK'} {E : XKx} {a b c o e : Expr} {es : List Expr} {pos p apos tpos : Pos} {α β : Type} {E1 : Er → Prop} {q : Addr}
theorem PyE.shaped {α : Type} {e : α → Dat} [DecidableEq α] (p : PyE e) {a : α} (hd : p.dep ≤ 64) (h : p.ok a = true) : SeqAt.shaped (p.py a) = true := by
  unfold SeqAt.shaped
  rw [Bool.and_eq_true]
  exact ⟨p.lay a h, decide_eq_true (Nat.le_trans (p.dp a) hd)⟩
/-- whether two such data are equal; their texts must be texts -/
def peq {α : Type} [DecidableEq α] (ok : α → Bool) (a b : α) : Res Bool := guard (ok a = true ∧ ok b = true) (decide (a = b))
theorem r_eqD {α : Type} {e : α → Dat} [DecidableEq α] (p : PyE e) (a b : α) (hu : X.A.units + 64 < cLine) {Q : Bool → Prop} (h : (peq p.ok a b).Out Q E1) (hk : ∀ z, Q z → P (.bl z) M) (hd : p.dep ≤ 64 := by decide) : OP X T (compareOp .Eq) (e a) (e b) M P :=
  o_eqD (p.to a) (p.to b) (p.shaped hd (gd h).1.1) (p.shaped hd (gd h).1.2) hu (by rw [p.eqv]; exact hk _ (gd h).2)
theorem r_neD {α : Type} {e : α → Dat} [DecidableEq α] (p : PyE e) (a b : α) (hu : X.A.units + 64 < cLine) {Q : Bool → Prop} (h : (peq p.ok a b).Out Q E1) (hk : ∀ z, Q z → P (.bl (!z)) M) (hd : p.dep ≤ 64 := by decide) : OP X T (compareOp .NotEq) (e a) (e b) M P :=
  o_neD (p.to a) (p.to b) (p.shaped hd (gd h).1.1) (p.shaped hd (gd h).1.2) hu (by rw [p.eqv]; exact hk _ (gd h).2)
theorem o_isNT {α : Type} (e : α → Dat) (hn : ∀ a, (e a).isN = false ∧ ∀ u, e a ≠ .raw u) {x : Option α} (h : P (.bl x.isNone) M) : OP X T (compareOp .Is) (optD e x) .non M P := by
  cases x with
  | none => exact o_isN (fun u => by simp [optD]) h
  | some a => exact o_isN (fun u => (hn a).2 u) (by show P (.bl (e a).isN) M; rw [(hn a).1]; exact h)
theorem o_notNT {α : Type} (e : α → Dat) (hn : ∀ a, (e a).isN = false ∧ ∀ u, e a ≠ .raw u) {x : Option α} (h : P (.bl (!x.isNone)) M) : OP X T (compareOp .IsNot) (optD e x) .non M P := by
  cases x with
  | none => exact o_notN (fun u => by simp [optD]) h
  | some a => exact o_notN (fun u => (hn a).2 u) (by show P (.bl (!(e a).isN)) M; rw [(hn a).1]; exact h)
theorem cifN {c : Bool} {A B : Res α} {P : α → Prop} {E : Er → Prop} (h : (cond c A B).Out P E) {X Y : Prop} (a : A.Out P E → X) (b : B.Out P E → Y) : ((!c) = true → Y) ∧ ((!c) = false → X) := by
  cases c with
  | true => exact ⟨(fun z => nomatch z), fun _ => a h⟩
  | false => exact ⟨fun _ => b h, fun z => nomatch z⟩
/-! walks -/
variable {iter tg : Expr} {PI' : List Dat → Mem → (Mem → Prop) → Prop}
theorem ei_rng1 (hm : X.mg "range" = none) (h : EX X false a τ M (fun d M1 => ∃ j, d = .int j ∧ small62 j ∧ PI' ((rangeL 0 j.toNat).map Dat.int) M1 anyM) E) (hg : Gl X "range" := by rfl) (hs : starEach [a] X.env = [(false, eval a X.env)] := by rfl) : EI X tg (.Call (.Name "range" p) [a] [] pos) τ M PI' E :=
  ei_range1 hm (h.imp (fun d M1 ⟨j, e, hj, hp⟩ => ⟨j, e, hj, by rw [rngD_map]; exact hp⟩) fun _ _ x => x) hg hs
theorem ei_rng2 (hm : X.mg "range" = none) (h : EX X false a τ M (fun d M1 => EX X false b τ M1 (fun d2 M2 => ∃ i j, d = .int i ∧ d2 = .int j ∧ (small62 i ∧ small62 j) ∧ PI' ((rangeL i (j - i).toNat).map Dat.int) M2 anyM) E) E) (hg : Gl X "range" := by rfl)
    (hs : starEach [a, b] X.env = [(false, eval a X.env), (false, eval b X.env)] := by rfl) (hs2 : starEach [b] X.env = [(false, eval b X.env)] := by rfl) : EI X tg (.Call (.Name "range" p) [a, b] [] pos) τ M PI' E :=
  ei_range2 hm (h.imp (fun d M1 h1 => h1.imp (fun d2 M2 ⟨i, j, e1, e2, ⟨h1, h2⟩, hp⟩ => ⟨i, j, e1, e2, ⟨h1.1, h1.2, h2.1, h2.2⟩, by rw [rngD_map]; exact hp⟩) fun _ _ x => x) fun _ _ x => x) hg hs hs2
/-- a range upwards by a step -/
def rng3ok (i j c : Int) : Prop := (small62 i ∧ small62 j) ∧ 0 < c ∧ c < 1073741824
instance {i j c : Int} : Decidable (rng3ok i j c) := inferInstanceAs (Decidable (_ ∧ _))
theorem ei_enumT (f : α → Dat) {elts : List Expr} {kk : Nat} {tpos : Pos} (hm : X.mg "enumerate" = none) (h : EX X false e τ M (fun d M1 => ∃ xs : List α, d = lstD f xs ∧ PI' ((enumL xs).map (pairD Dat.int f)) M1 anyM) E) (hg : Gl X "enumerate" := by rfl) (hs : starEach [e] X.env = [(false, eval e X.env)] := by rfl) :
    EI X (.Tuple elts kk tpos) (.Call (.Name "enumerate" p) [e] [] pos) τ M PI' E :=
  ei_enum hm (h.imp (fun d M1 ⟨xs, e, hp⟩ => ⟨xs.map f, e, by rw [enuD_map]; exact hp⟩) fun _ _ x => x) hg hs
/-! cells -/
theorem l_cellT (A : Mem) (f : α → Dat) {xs : List α} {lo hi : Option Int} (h : P (lstD f (cutD xs lo hi)) (A ++ (q, .lst (xs.map f)) :: B)) : SQ X (.raw (.ref q)) lo hi (A ++ (q, .lst (xs.map f)) :: B) P :=
  l_cell (List.mem_append_right _ List.mem_cons_self) (by rw [cutD_map]; exact h)
/-- what o[i] = d wants -/
def SetQ (K : PySem.W.Frag) (od id d : Dat) (M : Mem) (Pm : Mem → Prop) : Prop := ∃ q ds k j, od = .raw (.ref q) ∧ id = .int k ∧ (q, MC.lst ds) ∈ M ∧ ixN ds.length k = some j ∧ ∀ G H, Hst K G M H → Pm (putC q (.lst (ds.set j d)) M)
theorem r_set (A : Mem) (f : α → Dat) {xs : List α} {x : α} {k : Int} {Q : List α → Prop} {Pm : Mem → Prop} (h : (pset xs k x).Out Q E1) (hk : ∀ z, Q z → Pm (A ++ (q, .lst (z.map f)) :: B)) :
    SetQ X.K (.raw (.ref q)) (.int k) (f x) (A ++ (q, .lst (xs.map f)) :: B) Pm := by
  unfold pset at h
  cases e : ixN xs.length k with
  | none => rw [e] at h; exact h.elim
  | some j =>
    rw [e] at h
    refine ⟨q, xs.map f, k, j, rfl, rfl, List.mem_append_right _ List.mem_cons_self, by rw [List.length_map]; exact e, fun G H hH => ?_⟩
    have nd := hH.nd
    have : putC q (.lst ((xs.map f).set j (f x))) (A ++ (q, .lst (xs.map f)) :: B) = A ++ (q, .lst ((xs.set j x).map f)) :: B := by
      rw [← List.map_set]
      rw [adr_append] at nd
      have hA : ∀ c ∈ A, c.1 ≠ q := fun c hc e => by
        have h1 : q ∈ adr A := List.mem_flatMap.mpr ⟨c, hc, by obtain ⟨p, c⟩ := c; simp only at e; subst e; cases c <;> simp [adr1]⟩
        exact (List.nodup_append.mp nd).2.2 q h1 q (by simp [adr, adr1]) rfl
      clear hH nd h hk
      induction A with
      | nil => simp [putC]
      | cons c A ih =>
        obtain ⟨p, c⟩ := c
        have : p ≠ q := hA _ List.mem_cons_self
        simp only [List.cons_append, putC, if_neg this]
        rw [ih fun c hc => hA c (List.mem_cons_of_mem _ hc)]
    rw [this]
    exact hk _ h
/-- o[i] = v, the cells as they are told by r_set -/
theorem gx_subT {i : Expr} {d : Dat} {Pt : TEnv → Mem → Prop} (h : EX X false o τ M (fun od M1 => EX X false i τ M1 (fun id M2 => SetQ X.K od id d M2 (fun M3 => Pt τ M3)) E) E)
    (ha : ∀ v, assign (.Subscript o i pos) X.env v = (do
      let ov ← holding [v] (eval o X.env)
      let iv ← holding [v, ov] (eval i X.env)
      standAt pos
      holding [v, ov, iv] (setItem ov iv v)
      release [v, ov, iv] []) := by intro _; rfl) : GX X T (.Subscript o i pos) d τ M Pt E := .mk fun W tk σ G H v hE hH dv Q hP hX => by
  refine tWG_of (pg_sub (pe_W (e := o)) (pe_W (e := i)) set_list ha) ?_
  refine h.run W tk σ G H hE hH _ ?_ hX
  intro od M1 ov G1 H1 hi s1 h1 dov
  refine hi.run W tk σ G1 H1 (hE.up s1.gg) h1 _ ?_ (hX.step s1)
  rintro id M2 iv G2 H2 ⟨q, ds, k, j, rfl, rfl, hm, hj, hp⟩ s2 h2 div
  obtain ⟨xs, g, dx⟩ := h2.mem _ hm
  obtain ⟨s3, h3⟩ := put_ok (c' := .lst (ds.set j d)) (H2 := upd H2 q (.lst (xs.set j v))) h2 hm rfl (fun b hb => upd_ne hb) ⟨_, upd_same, dx.set (dv.up (s1.trans s2).gg) j⟩
  exact ⟨q, xs, k, j, (dov.up s2.gg).raw_inv, div.int_inv, g, by rw [dx.length]; exact hj, hP _ _ _ _ _ (hp _ _ h2) ((s1.trans s2).trans s3) h3 ((hE.up (s1.trans s2).gg).up s3.gg)⟩
/-! calls with a cell, of defs that give a new list -/
variable {k : Nat} {f : Addr} {fd : FuncData} {ps : List Str} {S : Spc} {x qual : Str} {st : Stmt}
theorem ex_callA (F : FnD X.prog X.w X.K X.mg X.base k f fd ps S) (hr : Room k X.A) (hm : X.mg x = some (.ref f)) (FF : Fun X.K x qual st f fd) (hb : Binds X.K fd ps [])
    (h : EA X T (e :: es) τ M (fun ds M1 => AP S ds M1 P E) E) (hg : Gl X x := by rfl) (hdb : (x == ("__debug__" : Str)) = false := by decide) (he : starEach (e :: es) X.env = (false, eval e X.env) :: starEach es X.env := by rfl) (hpl : (backTo pos (starEach es X.env)).any (·.1) = false := by rfl) :
    EX X T (.Call (.Name x p) (e :: es) [] pos) τ M P E := ex_call (df := []) (dvs := []) F hr hm FF.kp hb .nil (fun _ => .nil) (.mk fun W tk σ G H hE hH Q hP hX => h.run W tk σ G H hE hH Q (fun ds M2 vs G2 H2 hs => hP ds M2 vs G2 H2 (by show AP S (ds ++ []) M2 P E; rw [List.append_nil]; exact hs)) hX) hg hdb he hpl
/-- the cell behind A is handed to the def -/
def UpC {δ : Type} (A B : Mem) (P : δ → Mem → Prop) (d : δ) (Mc : Mem) : Prop := ∃ M2, (Mc ++ (A ++ B)).Perm M2 ∧ P d M2
theorem apC {ds : List Dat} (A : Mem) {c : MC} (h : S ds [(q, c)] (UpC A B P) (UpC A B E)) : AP S ds (A ++ (q, c) :: B) P E := ⟨_, _, List.perm_middle, h⟩
theorem outC1 {m : Res (α × List β)} {ff : α → Dat} {g : β → Dat} {Q : α × List β → Prop} (h : m.Out Q E1) (hk : ∀ r, Q r → P (ff r.1) (A ++ (q, .lst (r.2.map g)) :: B)) (hx : ∀ x, E1 x → False) :
    m.Out (fun r => UpC A B P (ff r.1) [(q, .lst (r.2.map g))]) (fun _ => False) :=
  out_mono h (fun r z => ⟨_, (List.perm_middle (l₁ := A)).symm, hk r z⟩) hx
theorem outR {m : Res (List β)} {g : β → Dat} {ex : Er → Exn} {Q : List β → Prop} (h : m.Out Q E1) (hk : ∀ r, Q r → ∀ q, P (.raw (.ref q)) ((q, .lst (r.map g)) :: M)) (hx : ∀ x, E1 x → E (ex x) M) :
    m.Out (fun r => ∀ q, UpP P (.raw (.ref q)) ((q, .lst (r.map g)) :: M)) (fun x => UpP E (ex x) M) := out_mono h (fun r z q => UpP.mk (hk r z q)) fun x z => UpP.mk (hx x z)
theorem finO {σ ρ β : Type} {k : σ → Res β} {r : ρ → Res β} {s : σ} {P : β → Prop} {E : Er → Prop} (h : (Ctl.fin k r (.nx s)).Out P E) : (k s).Out P E := h
end
end Kh

set_option Elab.async false
set_option linter.all false
set_option maxRecDepth 100000
set_option maxHeartbeats 1000000
namespace Kh
open PySem PySem.Spec L2
open PyProof.Rows (Compare_chain isTrue_chain chain_link chain_last test_link test_last)
/-! ### a op b op' c .. -/
structure TCh (X : Cx) (T : Bool) (pos : Pos) (ops : List CmpOp) (es : List Expr) (x : Dat) (τ : TEnv) (M : Mem) (P : Bool → Mem → Prop) (E : XKx) : Prop where
  run : ∀ W, Takes X W → ∀ σ G H v, DenE X.K τ G σ → Hst X.K G M H → Den X.K G x v → ∀ Q, CT' X.K G M H P Q → CX' X.K G M H E (fun c d H2 => W c d σ H2) →
    ∀ pins s u, Tk T s → Inv X pins σ H s → RelV v u → wpAny (model X.prog X.w) X.A (testChain pos u ops (evalEach es X.env)) (TP X pins σ Q) X.xe s
structure VCh (X : Cx) (T : Bool) (pos : Pos) (ops : List CmpOp) (es : List Expr) (x : Dat) (τ : TEnv) (M : Mem) (P : PK') (E : XKx) : Prop where
  run : ∀ W, Takes X W → ∀ σ G H v, DenE X.K τ G σ → Hst X.K G M H → Den X.K G x v → ∀ Q, CE' X.K G M H P Q → CX' X.K G M H E (fun c d H2 => W c d σ H2) →
    ∀ pins s u, Tk T s → Inv X pins σ H s → RelV v u → wpAny (model X.prog X.w) X.A (compareChain pos u ops (evalEach es X.env)) (EP X pins σ Q) X.xe s
section
variable {X : Cx} {T : Bool} {τ : TEnv} {M : Mem} {P : PK'} {E : XKx} {a r r' : Expr} {rs : List Expr} {op op' : CmpOp} {ops : List CmpOp} {pos : Pos} {x : Dat} {Pb : Bool → Mem → Prop}
theorem et_chain (h : EX X T a τ M (fun x M1 => TCh X T pos (op :: op' :: ops) (r :: r' :: rs) x τ M1 Pb E) E) (hm : lastMarks (op :: op' :: ops) (r :: r' :: rs) = false := by with_unfolding_all rfl) :
    ET X T (.Compare a (op :: op' :: ops) (r :: r' :: rs) pos) τ M Pb E := .mk fun W tk σ G H hE hH Q hP hX pins s k I => by
  have hA := h.run W tk σ G H hE hH (fun v H1 => ∀ pins s u, Tk T s → Inv X pins σ H1 s → RelV v u → wpAny (model X.prog X.w) X.A (testChain pos u (op :: op' :: ops) (evalEach (r :: r' :: rs) X.env)) (TP X pins σ Q) X.xe s)
    (fun d M1 v G1 H1 hc s1 h1 dv => hc.run W tk σ G1 H1 v (hE.up s1.gg) h1 dv Q (hP.step s1) (hX.step s1)) hX
  exact isTrue_chain (thnT k (hA pins s k I) fun u s1 k1 ⟨v, H1, I1, r1, q⟩ => q pins s1 u k1 I1 r1) hm
theorem tch_link (h : EX X T r τ M (fun y M1 => OP X T (compareOp op) x y M1 (fun d M2 => ∃ k, d = .bl k ∧ ((k = true → TCh X T pos (op' :: ops) (r' :: rs) y τ M2 Pb E) ∧ (k = false → Pb false M2)))) E) : TCh X T pos (op :: op' :: ops) (r :: r' :: rs) x τ M Pb E := .mk fun W tk σ G H v hE hH dx Q hP hX pins s u k I rx => by
  have hA := h.run W tk σ G H hE hH (fun y H1 => rW X T (compareOp op) v y H1 (fun z H3 => ∃ b, z = .bl b ∧ if b = true then (∀ pins s u2, Tk T s → Inv X pins σ H3 s → RelV y u2 → wpAny (model X.prog X.w) X.A (testChain pos u2 (op' :: ops) (evalEach (r' :: rs) X.env)) (TP X pins σ Q) X.xe s) else Q false H3))
    (fun d M1 y G1 H1 ho s1 h1 dy => ho G1 H1 v y h1 (dx.up s1.gg) dy _ (fun d M2 z G2 H2 ⟨b, eb, h2, h3⟩ s2 hs2 dz => by
      subst eb
      refine ⟨b, dz.bl_inv, ?_⟩
      cases b with
      | true => exact iteT ((h2 rfl).run W tk σ G2 H2 y (hE.up (s1.trans s2).gg) hs2 (dy.up s2.gg) Q (hP.step (s1.trans s2)) (hX.step (s1.trans s2)))
      | false => exact iteF (hP _ _ _ _ (h3 rfl) (s1.trans s2) hs2))) hX
  refine test_link (thnT k (hA pins s k I) fun u2 s1 k1 ⟨y, H1, I1, r1, q⟩ => thnT k1 (q pins s1 σ u u2 k1 I1 rx r1) fun cv s2 k2 ⟨z, H2, I2, r2, b, eb, q2⟩ => ?_)
  subst eb
  cases r2
  refine wpAny_truthy_bool ?_
  cases b with
  | true => exact iteT (q2 pins s2 u2 k2 I2 r1)
  | false => exact iteF ⟨H2, I2, q2⟩
theorem tch_last (h : EX X T r τ M (fun y M1 => OP X T (compareOp op) x y M1 (fun d M2 => ∃ k, d = .bl k ∧ Pb k M2)) E) : TCh X T pos [op] [r] x τ M Pb E := .mk fun W tk σ G H v hE hH dx Q hP hX pins s u k I rx => by
  have hA := h.run W tk σ G H hE hH (fun y H1 => rW X T (compareOp op) v y H1 (fun z H3 => ∃ b, z = .bl b ∧ Q b H3))
    (fun d M1 y G1 H1 ho s1 h1 dy => ho G1 H1 v y h1 (dx.up s1.gg) dy _ (fun d M2 z G2 H2 ⟨b, eb, h2⟩ s2 hs2 dz => by
      subst eb
      exact ⟨b, dz.bl_inv, hP _ _ _ _ h2 (s1.trans s2) hs2⟩)) hX
  refine test_last (thnT k (hA pins s k I) fun u2 s1 k1 ⟨y, H1, I1, r1, q⟩ => thn (q pins s1 σ u u2 k1 I1 rx r1) fun cv s2 ⟨z, H2, I2, r2, b, eb, q2⟩ => ?_)
  subst eb
  cases r2
  exact wpAny_truthy_bool ⟨H2, I2, q2⟩
theorem ex_chain (h : EX X T a τ M (fun x M1 => VCh X T pos (op :: op' :: ops) (r :: r' :: rs) x τ M1 P E) E) (hm : lastMarks (op :: op' :: ops) (r :: r' :: rs) = false := by with_unfolding_all rfl) :
    EX X T (.Compare a (op :: op' :: ops) (r :: r' :: rs) pos) τ M P E := .mk fun W tk σ G H hE hH Q hP hX pins s k I => by
  have hA := h.run W tk σ G H hE hH (fun v H1 => ∀ pins s u, Tk T s → Inv X pins σ H1 s → RelV v u → wpAny (model X.prog X.w) X.A (compareChain pos u (op :: op' :: ops) (evalEach (r :: r' :: rs) X.env)) (EP X pins σ Q) X.xe s)
    (fun d M1 v G1 H1 hc s1 h1 dv => hc.run W tk σ G1 H1 v (hE.up s1.gg) h1 dv Q (hP.step s1) (hX.step s1)) hX
  exact Compare_chain (thnT k (hA pins s k I) fun u s1 k1 ⟨v, H1, I1, r1, q⟩ => q pins s1 u k1 I1 r1) hm
theorem vch_link (h : EX X T r τ M (fun y M1 => OP X T (compareOp op) x y M1 (fun d M2 => ∃ k, d = .bl k ∧ ((k = true → VCh X T pos (op' :: ops) (r' :: rs) y τ M2 P E) ∧ (k = false → P (.bl false) M2)))) E) : VCh X T pos (op :: op' :: ops) (r :: r' :: rs) x τ M P E := .mk fun W tk σ G H v hE hH dx Q hP hX pins s u k I rx => by
  have hA := h.run W tk σ G H hE hH (fun y H1 => rW X T (compareOp op) v y H1 (fun z H3 => ∃ b, z = .bl b ∧ if b = true then (∀ pins s u2, Tk T s → Inv X pins σ H3 s → RelV y u2 → wpAny (model X.prog X.w) X.A (compareChain pos u2 (op' :: ops) (evalEach (r' :: rs) X.env)) (EP X pins σ Q) X.xe s) else Q (.bl false) H3))
    (fun d M1 y G1 H1 ho s1 h1 dy => ho G1 H1 v y h1 (dx.up s1.gg) dy _ (fun d M2 z G2 H2 ⟨b, eb, h2, h3⟩ s2 hs2 dz => by
      subst eb
      refine ⟨b, dz.bl_inv, ?_⟩
      cases b with
      | true => exact iteT ((h2 rfl).run W tk σ G2 H2 y (hE.up (s1.trans s2).gg) hs2 (dy.up s2.gg) Q (hP.step (s1.trans s2)) (hX.step (s1.trans s2)))
      | false => exact iteF (hP _ _ _ _ _ (h3 rfl) (s1.trans s2) hs2 den_bl))) hX
  refine chain_link (thnT k (hA pins s k I) fun u2 s1 k1 ⟨y, H1, I1, r1, q⟩ => thnT k1 (q pins s1 σ u u2 k1 I1 rx r1) fun cv s2 k2 ⟨z, H2, I2, r2, b, eb, q2⟩ => ?_)
  subst eb
  cases r2
  refine wpAny_truthy_bool ?_
  cases b with
  | true => exact iteT (q2 pins s2 u2 k2 I2 r1)
  | false => exact iteF ⟨.bl false, H2, I2, rfl, q2⟩
theorem vch_last (h : EX X T r τ M (fun y M1 => OP X T (compareOp op) x y M1 P) E) : VCh X T pos [op] [r] x τ M P E := .mk fun W tk σ G H v hE hH dx Q hP hX pins s u k I rx => by
  have hA := h.run W tk σ G H hE hH (fun y H1 => rW X T (compareOp op) v y H1 Q)
    (fun d M1 y G1 H1 ho s1 h1 dy => ho G1 H1 v y h1 (dx.up s1.gg) dy _ (hP.step s1)) hX
  exact chain_last (thnT k (hA pins s k I) fun u2 s1 k1 ⟨y, H1, I1, r1, q⟩ => q pins s1 σ u u2 k1 I1 rx r1)
end
end Kh

set_option Elab.async false
set_option linter.all false
set_option maxRecDepth 100000
set_option maxHeartbeats 1000000
namespace Kh
open PySem PySem.Spec L2
/-! ### enumerate(a text) -/
def Ites (z : Str) : It := ⟨fun i _ => i < z.cps.size, fun i H v H' => ∃ T c, z.cps[i]? = some c ∧ v = .ref T ∧ H T = none ∧ H' = upd H T (.tup [.int (i : Nat), .str ⟨#[c]⟩]), fun i _ => z.cps.size ≤ i⟩
section
variable {prog : Program} {w : World} {A : Around} {E : Value → Shared → Prop} {s : Shared}
theorem draws_str (hh : A.handled = none) (it : Addr) (x : Str) (t : Tok) : Draws prog w A it [it] x.cps.size (fun i v => ∃ c u, x.cps[i]? = some c ∧ v = .str ⟨#[c]⟩ u) (fun i h => h.IsStrIter it (strIterType x) x t i) := by
  cases ha : x.cps.all (· < 128)
  · have e : strIterType x = "str_iterator" := by simp [strIterType, ha]
    rw [e]; exact Draws.strWide hh it x t
  · have e : strIterType x = "str_ascii_iterator" := by simp [strIterType, ha]
    rw [e]; exact Draws.strAscii hh it x t
theorem strU_end {it : Addr} {x : Str} {t : Tok} {i : Nat} {Q : Value → Shared → Prop} (hh : A.handled = none) (hit : s.heap.IsStrIter it (strIterType x) x t i) (hx : x.cps[i]? = none)
    (hE : ∀ h' e, Heap.ExtBut it s.heap h' → (∃ o, h'.get? e = some o ∧ o.cls = .type "StopIteration") → E (.ref e) { s with heap := h' }) : wpAny (model prog w) A (Builtin.SmallTypes.nextOf (.ref it)) Q E s := by
  cases ha : x.cps.all (· < 128)
  · have e : strIterType x = "str_iterator" := by simp [strIterType, ha]
    rw [e] at hit; exact wpAny_nextOf_wide_end hh hit hx hE
  · have e : strIterType x = "str_ascii_iterator" := by simp [strIterType, ha]
    rw [e] at hit; exact wpAny_nextOf_ascii_end hh hit hx hE
theorem enumS_end {e it : Addr} {i : Nat} {x : Str} {t : Tok} {old : Value} {Q : Option Value → Shared → Prop} (hh : A.handled = none) (he : IsEnum s.heap e it (i : Int) old) (hit : s.heap.IsStrIter it (strIterType x) x t i) (hx : x.cps[i]? = none)
    (hQ : ∀ h', Heap.ExtBut it s.heap h' → Q none { s with heap := h' }) : wpAny (model prog w) A (pyNext (.ref e)) Q E s := by
  have hT : s.TypeIs (.ref e) "enumerate" := ⟨_, he, rfl⟩
  unfold pyNext
  refine wpAny_bind (wpAny_attempt (wpAny_callSpecial?_slot (name := Str.ofString "__next__") hT F.slot_enumerate_next
    (wpAny_call_entry F.slot_enumerate_next hT F.entry_enumerate_next ?_ (F.args_enumerate_next_1 _))))
  show wpAny _ _ (field (.ref e) 2 >>= _) _ _ _
  refine wpAny_bind (wpAny_field he rfl (x := .ref it) rfl ?_)
  refine wpAny_bind (strU_end (A := A.in1) hh hit hx fun h' x he' hx' => ?_)
  obtain ⟨o, ho, hc⟩ := hx'
  refine wpAny_bind (wpAny_isInstance (T := "StopIteration") (b := true) ⟨o, ho, hc⟩ isSubtype_stop ?_)
  exact wpAny_pure (hQ _ he')
end
theorem turn_enumS {P : Program} {w : World} {K : PySem.W.Frag} {elts : List Expr} {kk : Nat} {tpos : Pos} (z : Str) (t : Tok) (e it : Addr) :
    Turn P w K (.Tuple elts kk tpos) (Ites z) [e, it] e (fun i h => (∃ old, IsEnum h e it ((i : Nat) : Int) old) ∧ h.IsStrIter it (strIterType z) z t i ∧ e ≠ it) where
  mem := by simp
  obj := fun i h st b hb => by
    obtain ⟨⟨old, he⟩, ⟨o, ho, hc, hd⟩, _⟩ := st
    have e' : b = e ∨ b = it := by simpa using hb
    rcases e' with z | z
    · rw [z]; exact ⟨_, he, fun v q => nomatch q⟩
    · rw [z]; exact ⟨o, ho, fun v q => by rw [hd] at q; cases q⟩
  keep := fun i h h' st k => let ⟨⟨old, he⟩, ⟨o, ho, r⟩, hne⟩ := st; ⟨⟨old, k e (by simp) _ he⟩, ⟨o, k it (by simp) o ho, r⟩, hne⟩
  item := by
    intro X hP hw hK hc i pins s σ H E I hf st hg
    subst hP hw hK
    obtain ⟨⟨old, he⟩, hit, hne⟩ := st
    have hel : e < s.heap.objs.size := Heap.lt_size he
    have hil : it < s.heap.objs.size := by obtain ⟨_, q, _⟩ := hit; exact Heap.lt_size q
    refine wpAny_pyNext_enum_itemD (draws_str (prog := X.prog) (w := X.w) (A := X.A.in1) (I.ok.hd hc) it z t) he hit hg hne (by simpa using hne) fun x h' tk hPx ho hit' hT hsz hk => ?_
    obtain ⟨c, u, hcx, rfl⟩ := hPx
    refine ⟨_, rfl, wpAny_letOwnedTupleGo_enum (s := { s with heap := h', toks := tk + 1 }) ho fun h'' he' sb => ?_⟩
    have hT2 : h''.get? s.heap.objs.size = some { cls := .type "tuple", data := .seq #[.int i tk, .str ⟨#[c]⟩ u] } := (sb.2 _ (Nat.ne_of_gt hel)).trans hT
    have new : ObjOk X.prog X.w (upd H s.heap.objs.size (.tup [.int (i : Nat), .str ⟨#[c]⟩])) h'' s.heap.objs.size (.tup [.int (i : Nat), .str ⟨#[c]⟩]) :=
      ⟨by show 2 ≤ sizeLine; decide, [.int i tk, .str ⟨#[c]⟩ u], .cons ⟨_, rfl⟩ (.cons ⟨_, rfl⟩ .nil), ⟨_, hT2, rfl, _, rfl⟩⟩
    have I1 : Inv X pins σ (upd H s.heap.objs.size (.tup [.int (i : Nat), .str ⟨#[c]⟩])) { s with heap := h'', toks := tk + 1 } :=
      I.turnedNew (ch := [e, it]) (fun b ob hb q => (sb.2 b (fun z => hb (by simp [z]))).trans (hk b ob (fun z => hb (by simp [z])) (fun z => hb (by simp [z])) q)) hf (Nat.le_refl _) new
    refine ⟨.ref s.heap.objs.size, _, I1, rfl, ⟨_, c, hcx, rfl, I.hok.fresh (Nat.le_refl _), rfl⟩, ⟨⟨.str ⟨#[c]⟩ u, ?_⟩, ?_, hne⟩, fun b hb => ?_⟩
    · have e1 : ((i + 1 : Nat) : Int) = (i : Int) + 1 := by omega
      rw [e1]; exact he'
    · obtain ⟨o, ho2, r⟩ := hit'
      exact ⟨o, (sb.2 it (Ne.symm hne)).trans ho2, r⟩
    · have hb' : b < s.heap.objs.size := by
        have e' : b = e ∨ b = it := by simpa using hb
        rcases e' with z | z
        · rw [z]; exact hel
        · rw [z]; exact hil
      rw [upd_ne (Nat.ne_of_lt hb')]
      exact (hf b hb).1
  done := by
    intro X hP hw hK hc i pins s σ H E I hf st hg
    subst hP hw hK
    obtain ⟨⟨old, he⟩, hit, hne⟩ := st
    obtain ⟨f0, f1, f2, f3, f4, f5⟩ := hf it (by simp)
    exact enumS_end (I.ok.hd hc) he hit (Array.getElem?_eq_none hg) fun h' eb => ⟨rfl, I.turned (t' := s.toks) (fun b o hb q => eb b o hb q) f0 f1 f3 f4 f5⟩
  self := fun A i s Q E st h => let ⟨⟨_, he⟩, _⟩ := st; wpAny_pyIter_enum he h
def iEnumS (ta : TA) : TI := fun σ H R => ta σ H fun vs H1 => ∃ z, vs = [.str z] ∧ R (Ites z) H1
theorem pi_enumS {X : Cx} {e : Expr} {ta : TA} {p pos tpos : Pos} {elts : List Expr} {kk : Nat} (hg : Gl X "enumerate") (hm : X.mg "enumerate" = none) (ha : PA X [e] ta) (hs : starEach [e] X.env = [(false, eval e X.env)] := by rfl) :
    PI X (.Tuple elts kk tpos) (.Call (.Name "enumerate" p) [e] [] pos) (iEnumS ta) := by
  refine ⟨fun pins s σ H R I h => ?_⟩
  refine Call_ (ld_blt I hg hm PyProof.Rows.boot_enumerate (PyProof.Rows.callWith_type1 (thn (ha.run pos pins s σ H _ I h) fun us s1 ⟨vs, H1, I1, r1, q1⟩ => ?_) hs rfl))
  obtain ⟨z, ex, q⟩ := q1
  subst ex
  cases r1 with
  | cons r rr =>
    cases rr
    obtain ⟨t, rfl⟩ := r
    refine call_enumerate_str fun h' he hit hsz hk => wpAny_pyIter_enum he ?_
    have I2 : Inv X pins σ H1 { s1 with heap := h' } := I1.kept (t' := s1.toks) hk
    refine ⟨s1.heap.objs.size + 1, [s1.heap.objs.size + 1, s1.heap.objs.size], _, _, H1, rfl, I2, turn_enumS z t (s1.heap.objs.size + 1) s1.heap.objs.size, ⟨⟨.none, he⟩, hit, Nat.succ_ne_self _⟩, fun b hb => ?_, q⟩
    have e' : b = s1.heap.objs.size + 1 ∨ b = s1.heap.objs.size := by simpa using hb
    have hle : s1.heap.objs.size ≤ b := by
      rcases e' with z | z
      · rw [z]; exact Nat.le_add_right _ _
      · rw [z]; exact Nat.le_refl _
    exact I1.fpOk hle (I1.hok.fresh hle)
where
  Call_ := @PyProof.Rows.Call_
theorem walkD_enumS {K : PySem.W.Frag} {G1 : Hp} {z : Str} : WalkD K (Ites z) ((enumL (signsL z)).map (pairD Dat.int chD)) G1 anyM := fun G2 M2 H2 s h _ => by
  have hl : ((enumL (signsL z)).map (pairD Dat.int chD)).length = z.cps.size := by simp [enumL]
  rw [hl]
  refine ⟨fun i hi => hi, Nat.le_refl _, fun i x H' hi y => ?_⟩
  obtain ⟨T, c, h1, rfl, hT, rfl⟩ := y
  obtain ⟨s3, h3⟩ := Stp.new (o := .tup [.int (i : Nat), .str ⟨#[c]⟩]) h hT
  refine ⟨_, s3, h3, fun d hd => ?_⟩
  have hc : (signsL z)[i]? = some c := by rw [Array.getElem?_toList]; exact h1
  have : d = pairD Dat.int chD ((i : Int), c) := by
    simp only [enumL, List.map_map, List.getElem?_map, List.getElem?_zipIdx, hc] at hd
    simpa using hd.symm
  subst this
  exact den_tup upd_same (.cons den_int (.cons den_str .nil))
section
variable {X : Cx} {T : Bool} {τ : TEnv} {M A B : Mem} {P : PK'} {E : XKx} {e a b c o : Expr} {es : List Expr} {pos p apos tpos : Pos} {α β σ ρ : Type} {E1 : Er → Prop} {q : Addr} {ss : List Stmt} {R : RK} {PI' : List Dat → Mem → (Mem → Prop) → Prop} {tg : Expr}
theorem ei_enumS {elts : List Expr} {kk : Nat} {tpos : Pos} (hm : X.mg "enumerate" = none) (h : EX X false e τ M (fun d M1 => ∃ z, d = .str z ∧ PI' ((enumL (signsL z)).map (pairD Dat.int chD)) M1 anyM) E) (hg : Gl X "enumerate" := by rfl) (hs : starEach [e] X.env = [(false, eval e X.env)] := by rfl) :
    EI X (.Tuple elts kk tpos) (.Call (.Name "enumerate" p) [e] [] pos) τ M PI' E := .mk fun W tk σ G H hE hH R hR hX => by
  refine tWI_of (pi_enumS hg hm (pa_cons pe_W pa_nil hs) hs) ?_
  refine h.run W tk σ G H hE hH _ ?_ hX
  intro d M1 v G1 H1 ⟨z, ed, hp⟩ s1 h1 dv
  subst ed
  exact ⟨z, by rw [dv.str_inv], hR _ _ _ _ _ _ hp s1 h1 walkD_enumS⟩
theorem rng3_RgC {i j c : Int} (h : rng3ok i j c) : RgC i j c ((j - i + c - 1) / c).toNat := by
  obtain ⟨⟨⟨h1, h2⟩, h3, h4⟩, h5, h6⟩ := h
  have e1 : j - i + c - 1 = (j - i - 1) + 1 * c := by omega
  have hs : Builtin.Range.rangeSize i j c = (((j - i + c - 1) / c).toNat : Int) := by
    unfold Builtin.Range.rangeSize
    rw [if_pos (by omega), e1, Int.add_mul_ediv_right _ _ (by omega)]
    split
    · have := Int.ediv_nonneg (a := j - i - 1) (b := c) (by omega) (by omega)
      omega
    · have := Int.ediv_neg_of_neg_of_pos (a := j - i - 1) (b := c) (by omega) (by omega)
      omega
  refine ⟨by omega, by omega, ?_, hs⟩
  have hn : (((j - i + c - 1) / c).toNat : Int) ≤ 2 ^ 63 := by
    by_cases e : i < j
    · have := Int.ediv_le_self c (show (0 : Int) ≤ j - i - 1 by omega)
      rw [e1, Int.add_mul_ediv_right _ _ (by omega)]
      omega
    · have := Int.ediv_neg_of_neg_of_pos (a := j - i - 1) (b := c) (by omega) (by omega)
      rw [e1, Int.add_mul_ediv_right _ _ (by omega)]
      omega
  unfold Builtin.Range.small
  rw [hs]
  have hn2 : (((j - i + c - 1) / c).toNat : Int) < 2 ^ 63 := by
    rw [e1, Int.add_mul_ediv_right _ _ (by omega)]
    by_cases e : i < j
    · have := Int.ediv_le_self c (show (0 : Int) ≤ j - i - 1 by omega)
      omega
    · have := Int.ediv_neg_of_neg_of_pos (a := j - i - 1) (b := c) (by omega) (by omega)
      omega
  simp only [Builtin.Range.rangeFitsLong, Bool.and_eq_true, Bool.or_eq_true, decide_eq_true_eq, beq_iff_eq]
  have hn0 : (0 : Int) ≤ (((j - i + c - 1) / c).toNat : Int) := Int.natCast_nonneg _
  generalize (((j - i + c - 1) / c).toNat : Int) = n at *
  rw [if_pos (show c > 0 by omega)]
  simp only [Bool.and_eq_true, decide_eq_true_eq]
  omega
theorem ei_rng3 (hm : X.mg "range" = none) (h : EX X false a τ M (fun d M1 => EX X false b τ M1 (fun d2 M2 => EX X false c τ M2 (fun d3 M3 => ∃ i j k, d = .int i ∧ d2 = .int j ∧ d3 = .int k ∧ rng3ok i j k ∧ PI' ((rangeC i k ((j - i + k - 1) / k).toNat).map Dat.int) M3 anyM) E) E) E) (hg : Gl X "range" := by rfl)
    (hs : starEach [a, b, c] X.env = (false, eval a X.env) :: starEach [b, c] X.env := by rfl) (hs2 : starEach [b, c] X.env = (false, eval b X.env) :: starEach [c] X.env := by rfl) (hs3 : starEach [c] X.env = (false, eval c X.env) :: starEach [] X.env := by rfl) (hpl : (backTo pos (starEach [b, c] X.env)).any (·.1) = false := by rfl) :
    EI X tg (.Call (.Name "range" p) [a, b, c] [] pos) τ M PI' E :=
  ei_range3 hm (h.imp (fun d M1 h1 => h1.imp (fun d2 M2 h2 => h2.imp (fun d3 M3 ⟨i, j, k, e1, e2, e3, hr, hp⟩ => ⟨i, j, k, _, e1, e2, e3, rng3_RgC hr, by rw [rngC_map]; exact hp⟩) fun _ _ x => x) fun _ _ x => x) fun _ _ x => x) hg hs hs2 hs3 hpl
/-! ### a list cell that is changed no more, under one name -/
theorem ws_frz {ds : List Dat} {M3 : Mem} (i : Nat) (ht : τ[i]? = some (some (.raw (.ref q)))) (pm : M.Perm ((q, .lst ds) :: M3)) (h : WS X T ss (τ.set i (some (.lst ds))) M3 R) : WS X T ss τ M R := .mk fun W tk σ G H hE hH D hR => by
  obtain ⟨G', s3, h3, d3⟩ := freezeL (hH.perm pm)
  have sA : Stp G M H G' M3 H := (Stp.refl.perm (List.Perm.refl _) pm).trans s3
  refine h.run W tk σ G' H (fun j d hj => ?_) h3 D (hR.step sA)
  by_cases c : i = j
  · subst c
    have hl : i < τ.length := (List.getElem?_eq_some_iff.mp ht).1
    rw [List.getElem?_set_self hl] at hj
    cases hj
    obtain ⟨v, e1, e2⟩ := hE i _ ht
    rw [e2.raw_inv] at e1
    exact ⟨_, e1, d3⟩
  · rw [List.getElem?_set_ne c] at hj
    obtain ⟨v, e1, e2⟩ := hE j d hj
    exact ⟨v, e1, e2.up sA.gg⟩
/-! ### texts -/
def preplS (x y z : Str) : Res Str := guard (x.length + (x.length + 1) * z.length ≤ 16777216) (Txt.replace x y z)
theorem ex_repl {y z : Str} {j k : Nat} {c0 c1 : Pos} (h : EX X true o τ M (fun d M1 => ∃ x Q E1, d = .str x ∧ (preplS x y z).Out Q E1 ∧ ∀ r, Q r → P (.str r) M1) E) (hyz : (y == z) = false := by decide)
    (hst : starEach [.Constant (.str y) j c0, .Constant (.str z) k c1] X.env = [(false, eval (.Constant (.str y) j c0) X.env), (false, eval (.Constant (.str z) k c1) X.env)] := by rfl)
    (hbase : attributeBase o "replace" X.env (eval o X.env) = eval o X.env := by rfl) (hline : (apos.endLine == pos.line) = true := by rfl) :
    EX X true (.Call (.Attribute o "replace" apos) [.Constant (.str y) j c0, .Constant (.str z) k c1] [] pos) τ M P E := .mk fun W tk σ G H hE hH Q hP hX pins s kt I => by
  have hO := h.run W tk σ G H hE hH (fun v H1 => ∃ x, v = .str x ∧ x.length + (x.length + 1) * z.length ≤ 16777216 ∧ Q (.str (Txt.replace x y z)) H1) (fun d M1 v G1 H1 ⟨x, Q', E1, ed, hg, hk⟩ s1 h1 dv => by
    subst ed
    exact ⟨x, dv.str_inv, (gd hg).1, hP _ _ _ _ _ (hk _ (gd hg).2) s1 h1 den_str⟩) hX
  exact CwR.pet_replT (to := tW X true o) (fun pins s σ H Q h0 I h => h pins s (fun _ => h0) I) hyz hst hbase hline pins s σ H Q (kt rfl) I hO
def pjoin (a : Str) (ys : List Str) : Res Str := guard ((ys.map (·.length)).sum + ys.length * a.length ≤ 16777216) (Txt.join a ys)
theorem r_join {a : Str} {xs : List Dat} (ys : List Str) (he : xs = ys.map Dat.str) {Q : Str → Prop} (h : (pjoin a ys).Out Q E1) (hk : ∀ r, Q r → P (.str r) M) : BMr X "str.join" (.str a) [.lst xs] M P :=
  ⟨_, mt_join, fun G H v vs hH dv dvs Q' hP => by
    subst he
    obtain ⟨u, rfl, d2⟩ := one_inv dvs
    obtain ⟨p, ws, rfl, g, dl⟩ := d2.lst_inv
    have ew := DenL.strs dl
    subst ew
    exact ⟨a, p, ys, dv.str_inv, rfl, .inl (SqL.of (hH.sub _ _ g)), (gd h).1, hP _ _ _ _ _ (hk _ (gd h).2) Stp.refl hH den_str⟩⟩
theorem r_joinS {a : Str} {xs : List Str} {Q : Str → Prop} (h : (pjoin a xs).Out Q E1) (hk : ∀ r, Q r → P (.str r) M) : BMr X "str.join" (.str a) [lstD Dat.str xs] M P := r_join xs rfl h hk
theorem r_joinC {a : Str} {xs : List Nat} {Q : Str → Prop} (h : (pjoin a (xs.map chS)).Out Q E1) (hk : ∀ r, Q r → P (.str r) M) : BMr X "str.join" (.str a) [lstD chD xs] M P := r_join (xs.map chS) (by rw [List.map_map]; rfl) h hk
theorem ex_join (h : EX X T o τ M (fun d M1 => TyB X.K M1 d "str" ∧ EA X T (e :: es) τ M1 (fun ds M2 => BMr X "str.join" d ds M2 P) E) E)
    (hbase : attributeBase o "join" X.env (eval o X.env) = eval o X.env := by rfl)
    (hfew : ((backTo tpos (starEach (e :: es) X.env)).all (fun x => !x.1) && (backToKw tpos (keywordEach [] X.env)).all (fun x => x.1.isSome) && decide ((e :: es).length + ([] : List Keyword).length + (if ([] : List Keyword).isEmpty then 0 else 1) < 30)) = true := by rfl)
    (hline : (apos.endLine == tpos.line) = true := by rfl) (hs : starEach (e :: es) X.env = (false, eval e X.env) :: starEach es X.env := by rfl) (hplain : (backTo tpos (starEach es X.env)).any (·.1) = false := by rfl) :
    EX X T (.Call (.Attribute o "join" apos) (e :: es) [] tpos) τ M P E := ex_bm PySem.F.plainAttrs_str PySem.F.slot_str_join PySem.F.type_str_join h hbase hfew hline hs hplain
theorem ex_count (h : EX X T o τ M (fun d M1 => TyB X.K M1 d "str" ∧ EA X T (e :: es) τ M1 (fun ds M2 => BMr X "str.count" d ds M2 P) E) E)
    (hbase : attributeBase o "count" X.env (eval o X.env) = eval o X.env := by rfl)
    (hfew : ((backTo tpos (starEach (e :: es) X.env)).all (fun x => !x.1) && (backToKw tpos (keywordEach [] X.env)).all (fun x => x.1.isSome) && decide ((e :: es).length + ([] : List Keyword).length + (if ([] : List Keyword).isEmpty then 0 else 1) < 30)) = true := by rfl)
    (hline : (apos.endLine == tpos.line) = true := by rfl) (hs : starEach (e :: es) X.env = (false, eval e X.env) :: starEach es X.env := by rfl) (hplain : (backTo tpos (starEach es X.env)).any (·.1) = false := by rfl) :
    EX X T (.Call (.Attribute o "count" apos) (e :: es) [] tpos) τ M P E := ex_bm PySem.F.plainAttrs_str PySem.F.slot_str_count PySem.F.type_str_count h hbase hfew hline hs hplain
theorem r_count {a b : Str} (h : P (.int (Txt.count a b)) M) : BMr X "str.count" (.str a) [.str b] M P :=
  ⟨_, mt_count, fun G H v vs hH dv dvs Q' hP => by
    obtain ⟨u, rfl, d2⟩ := one_inv dvs
    exact ⟨a, b, dv.str_inv, by rw [d2.str_inv], hP _ _ _ _ _ h Stp.refl hH den_int⟩⟩
/-! ### a list against [] -/
theorem r_eqNil {xs : List Dat} (hu : X.A.units + 64 < cLine) (h : P (.bl xs.isEmpty) M) : OP X T (compareOp .Eq) (.lst xs) (.lst []) M P := by
  cases xs with
  | nil => exact o_eqLT rfl (by decide) hu h
  | cons x xs => exact o_eqLn (by simp) hu h
theorem r_neNil {xs : List Dat} (hu : X.A.units + 64 < cLine) (h : P (.bl (!xs.isEmpty)) M) : OP X T (compareOp .NotEq) (.lst xs) (.lst []) M P := by
  cases xs with
  | nil => exact o_neLT rfl (by decide) hu h
  | cons x xs => exact o_neLn (by simp) hu h
theorem isE_map {f : α → Dat} {xs : List α} : (xs.map f).isEmpty = xs.isEmpty := by cases xs <;> rfl
theorem r_eqNilT (f : α → Dat) {xs : List α} (hu : X.A.units + 64 < cLine) (h : P (.bl xs.isEmpty) M) : OP X T (compareOp .Eq) (lstD f xs) (.lst []) M P := r_eqNil hu (by rw [isE_map]; exact h)
theorem r_neNilT (f : α → Dat) {xs : List α} (hu : X.A.units + 64 < cLine) (h : P (.bl (!xs.isEmpty)) M) : OP X T (compareOp .NotEq) (lstD f xs) (.lst []) M P := r_neNil hu (by rw [isE_map]; exact h)
end
theorem c_isx {X : Cx} {M : Mem} {P : PK'} {d : Dat} {cv : V} {u : Value} {k : Bool} (hc : ClsV cv u) (ht : ∃ t, (∀ M, TyD X.K M d t) ∧ PySem.W.kitOne X.K t u = some k) (h : P (.bl k) M) : BC X (.builtin "isinstance") [d, .raw cv] M P :=
  let ⟨_, h1, h2⟩ := ht
  c_isi hc (h1 M) h2 h
/-! ### methods of own classes -/
theorem FnOk.mono {P : Program} {w : World} {K : PySem.W.Frag} {mg : Str → Option Value} {base : Heap} {k : Nat} {f : Addr} {fd : FuncData} {ps : List Str} {CX : CXT} {sp sp' : Sp} (h : FnOk P w K mg base CX k f fd ps sp) (hi : ∀ vs H Q E, sp' vs H Q E → sp vs H Q E) : FnOk P w K mg base CX k f fd ps sp' :=
  ⟨fun vs H Q E q => h.len vs H Q E (hi _ _ _ _ q), fun A outer s H args us vs Q E hr e0 hb r hsp => h.run A outer s H args us vs Q E hr e0 hb r (hi _ _ _ _ hsp)⟩
theorem FnD.mono {P : Program} {w : World} {K : PySem.W.Frag} {mg : Str → Option Value} {base : Heap} {k : Nat} {f : Addr} {fd : FuncData} {ps : List Str} {S S' : Spc} (h : FnD P w K mg base k f fd ps S) (hi : ∀ ds M Pd PE, S' ds M Pd PE → S ds M Pd PE) : FnD P w K mg base k f fd ps S' :=
  FnOk.mono h fun vs H Q E ⟨G, ds, M, Pd, PE, h1, h2, h3, h4, h5⟩ => ⟨G, ds, M, Pd, PE, h1, h2, hi _ _ _ _ h3, h4, h5⟩
/-- the method m of instances of the class at C keeps S, around A -/
structure MO (P : Program) (w : World) (K : PySem.W.Frag) (mg : Str → Option Value) (base : Heap) (A : Around) (C : Addr) (m : Str) (S : Spc) : Prop where
  ex : ∃ k g fd ps, Cls K C ∧ Meth K C m g ∧ FnD P w K mg base k g fd ps S ∧ Room k A ∧ Binds K fd ps []
section
variable {X : Cx} {T : Bool} {τ : TEnv} {M : Mem} {P : PK'} {E : XKx} {e o : Expr} {es : List Expr} {pos p apos : Pos} {m : Str}
theorem ex_mv {pl : Sem Bool} (h : EX X T o τ M (fun d M1 => ∃ C S, MO X.prog X.w X.K X.mg X.base X.A C m S ∧ IsI C m M1 d ∧ EA X T (e :: es) τ M1 (fun ds M2 => AP S (d :: ds) M2 P E) E) E)
    (ht : eval (.Call (.Attribute o m apos) (e :: es) [] pos) X.env = (do let ov ← eval o X.env; standAt apos.atName; let (f, first) ← holding [ov] (getMethod ov m pl); callWith pos f first (backTo pos (starEach (e :: es) X.env)) []) := by rfl)
    (he : starEach (e :: es) X.env = (false, eval e X.env) :: starEach es X.env := by rfl) (hpl : (backTo pos (starEach es X.env)).any (·.1) = false := by rfl) :
    EX X T (.Call (.Attribute o m apos) (e :: es) [] pos) τ M P E := by
  refine .mk ?_; intro W tk σ G H hE hH Q hP hX pins s k0 I
  have hO := h.run W tk σ G H hE hH (fun x H1 => ∃ a C S dx fs, MO X.prog X.w X.K X.mg X.base X.A C m S ∧ x = .ref a ∧ H1 a = some (.ins C dx fs) ∧ fs.lookup m = none ∧ tWA X T (e :: es) σ H1 fun vs H2 => toSp X.K S (x :: vs) H2 Q (fun c d H3 => W c d σ H3)) (fun d M1 v G1 H1 ⟨C, S, mo, hi, ha⟩ s1 h1 dv => by
    obtain ⟨a, dx, fs, e1, e2, e3⟩ := hi.get h1 dv
    exact ⟨a, C, S, dx, fs, mo, e1, e2, e3, ha.run W tk σ G1 H1 (hE.up s1.gg) h1 _ (fun ds M2 vs G2 H2 hp s2 h2 dvs2 => ap_toSp hp (.cons (dv.up s2.gg) dvs2) h2 (hP.step (s1.trans s2)) (hX.step (s1.trans s2))) (hX.step s1)⟩) hX
  refine PySem.W.methodCall_KW (pl := pl) (thnT k0 (hO pins s k0 I) fun u s1 k1 ⟨x, H1, I1, rx, a, C, S, dx, fs, mo, ex, ea, l, q⟩ => ?_) ht
  subst ex
  obtain rfl : u = Value.ref a := rx
  obtain ⟨k, g, fd, ps, c, hm, F, hr, hb⟩ := mo.ex
  refine getmeth_ok I1 ea c hm l ?_
  refine PySem.W.callWith_K (h₀ := X.base) (first := [.ref a]) I1.ok.mod.kin hm.kp (thn (q pos pins s1 k1 I1) fun us s2 ⟨vs, H2, I2, r, q2⟩ => ⟨I2.kIn, ?_⟩) he hpl
  exact run_d (us := .ref a :: us) (vs := .ref a :: vs) (dsv := []) (dvs := []) F hr hb .nil tk I2 (.cons rfl r) (by rw [List.append_nil]; exact q2)
theorem ex_mv0 {pl : Sem Bool} (h : EX X T o τ M (fun d M1 => ∃ C S, MO X.prog X.w X.K X.mg X.base X.A C m S ∧ IsI C m M1 d ∧ AP S [d] M1 P E) E)
    (ht : eval (.Call (.Attribute o m apos) [] [] pos) X.env = (do let ov ← eval o X.env; standAt apos.atName; let (f, first) ← holding [ov] (getMethod ov m pl); callWith pos f first (backTo pos (starEach [] X.env)) []) := by rfl) :
    EX X T (.Call (.Attribute o m apos) [] [] pos) τ M P E := by
  refine .mk ?_; intro W tk σ G H hE hH Q hP hX pins s k0 I
  have hO := h.run W tk σ G H hE hH (fun x H1 => ∃ a C S dx fs, MO X.prog X.w X.K X.mg X.base X.A C m S ∧ x = .ref a ∧ H1 a = some (.ins C dx fs) ∧ fs.lookup m = none ∧ toSp X.K S [x] H1 Q (fun c d H3 => W c d σ H3)) (fun d M1 v G1 H1 ⟨C, S, mo, hi, ha⟩ s1 h1 dv => by
    obtain ⟨a, dx, fs, e1, e2, e3⟩ := hi.get h1 dv
    exact ⟨a, C, S, dx, fs, mo, e1, e2, e3, ap_toSp ha (.cons dv .nil) h1 (hP.step s1) (hX.step s1)⟩) hX
  refine PySem.W.methodCall_KW (pl := pl) (thnT k0 (hO pins s k0 I) fun u s1 k1 ⟨x, H1, I1, rx, a, C, S, dx, fs, mo, ex, ea, l, q⟩ => ?_) ht
  subst ex
  obtain rfl : u = Value.ref a := rx
  obtain ⟨k, g, fd, ps, c, hm, F, hr, hb⟩ := mo.ex
  refine getmeth_ok I1 ea c hm l ?_
  exact PySem.W.callWith_K0 (first := [.ref a]) I1.kIn hm.kp (run_d (us := [.ref a]) (vs := [.ref a]) (dsv := []) (dvs := []) F hr hb .nil tk I1 (.cons rfl .nil) q)
theorem mvD {d : Dat} {S : Spc} (h : ∃ C, MO X.prog X.w X.K X.mg X.base X.A C m S ∧ ∀ M, IsI C m M d) (ha : EA X T es τ M (fun ds M2 => S (d :: ds) M2 (UpP P) (UpP E)) E) :
    ∃ C S, MO X.prog X.w X.K X.mg X.base X.A C m S ∧ IsI C m M d ∧ EA X T es τ M (fun ds M2 => AP S (d :: ds) M2 P E) E :=
  let ⟨C, h1, h2⟩ := h
  ⟨C, S, h1, h2 M, .mk fun W tk σ G H hE hH Q hP hX => ha.run W tk σ G H hE hH Q (fun ds M2 vs G2 H2 hs => hP ds M2 vs G2 H2 (ap_all hs)) hX⟩
theorem mvD0 {d : Dat} {S : Spc} (h : ∃ C, MO X.prog X.w X.K X.mg X.base X.A C m S ∧ ∀ M, IsI C m M d) (ha : S [d] M (UpP P) (UpP E)) : ∃ C S, MO X.prog X.w X.K X.mg X.base X.A C m S ∧ IsI C m M d ∧ AP S [d] M P E :=
  let ⟨C, h1, h2⟩ := h
  ⟨C, S, h1, h2 M, ap_all ha⟩
/-- what becomes of an instance that is made: it is frozen at once -/
theorem made_ok {C x dx : Addr} {fs : List (Str × Dat)} (h : P (.obj C (fs.map (·.1)) (fs.map (·.2))) M) : MadeP P x ((x, .ins C dx fs) :: M) := .inr ⟨C, dx, fs, M, List.Perm.refl _, h⟩
end
end Kh

set_option Elab.async false
set_option linter.all false
set_option maxRecDepth 100000
set_option maxHeartbeats 1000000
namespace Kh
open PySem PySem.Spec L2
/-! ### own operators -/
section
variable {prog : Program} {w : World} {A : Around} {E : Value → Shared → Prop} {s : Shared} {K : PySem.W.Frag} {x C L f : Addr} {h₀ : Heap} {m : Str → Option Value} {ox : Obj} {od : Option Obj} {name : Str} {b tb : Value}
open PySem.W in
theorem ifBound_B {M : Model} {args : List Value} {id : String} {Q : Option Value → Shared → Prop} (X : K.In s.heap) (I : InstAt s.heap x ox C od) (hs : findIn K (.ref C) name = some (some (.builtin id)))
    (hb : ∀ self, bindSpecial (.builtin id) self = pure (.builtin id, [self])) (h : wpAny M A (call (.builtin id) (.ref x :: args)) (fun v => Q (some v)) E s) : wpAny M A (callSpecialIfBound? (.ref x) name args) Q E s := by
  simp only [callSpecialIfBound?, bindSpecialIfBound?]
  refine wpAny_holding (wpAny_bind (wpAny_bind (wpAny_bind (I.type.here ((looks_findIn X hs).here ?_)))))
  refine wpAny_bind (wpAny_askSetting (wpAny_ite ?_))
  have fin : wpAny M A (call (.builtin id) ([.ref x] ++ args) >>= fun v => pure (some v)) Q E s := wpAny_bind (wpAny_mono h (fun v s' h' => wpAny_pure h') fun _ _ h' => h')
  split
  · exact wpAny_bind ((Looks.of_pure (hb _)).here (wpAny_pure (by exact fin)))
  · exact wpAny_tryCatch (wpAny_bind ((Looks.of_pure (hb _)).here (wpAny_pure (by exact fin))))
open PySem.W in
theorem ne_K {Q : Value → Shared → Prop} (hu : A.units < cLine) (hu1 : A.in1.units < cLine) (F : PyProof.Rows.Fr h₀ L s.heap m) (X₀ : K.In h₀) (I : InstAt s.heap x ox C od) (hb : Looks (model prog w) s.heap (typeOf b) tb) (hn : notFirst K C tb = true)
    (hs : findIn K (.ref C) "__ne__" = some (some (.builtin "object.__ne__"))) (he : findIn K (.ref C) "__eq__" = some (some (.ref f))) (hf : isFn K (.ref f) = true) (hm : mroIn K C (.type "object") = some true)
    (h : wpAny (model prog w) A.in1 (call (.ref f) [.ref x, b]) (fun v s' => ∃ k, v = .bool k ∧ Q (.bool (!k)) s') E s) : wpAny (model prog w) A (richCompare .NotEq (.ref x) b) Q E s := by
  have X := X₀.keeps F.keep
  have one : wpAny (model prog w) A (tryCompare (.ref x) "__ne__" b) (fun r s' => ∃ v, r = some v ∧ Q v s') E s := by
    unfold tryCompare
    refine wpAny_bind (ifBound_B (args := [b]) X I hs PySem.F.slot_object_ne.bind ?_)
    refine wpAny_call (codeAny_call_builtin PySem.F.slot_object_ne.plain PySem.F.entry_object_ne (check_slot (i := "object.__ne__") (owner := "object") (n := "__ne__") (by decide +kernel) (by decide +kernel) (I.type.andThen (looks_mroIn X hm)) (PySem.F.args_object_ne_2 _ _) ?_))
    unfold Builtin.«object.__ne__»
    refine wpAny_bind (m := slotArgs "__ne__" 1 _) (wpAny_pure ?_)
    refine wpAny_bind (m := cRoomFor _ _) (wpAny_cRoomFor hu1 ?_)
    refine wpAny_bind (m := callSpecialIfBound? (.ref x) (Str.ofString "__eq__") _) (ifBound_K (args := [b]) X I he hf (wpAny_mono h (fun v s' hv => ?_) fun _ _ e => e))
    obtain ⟨k, rfl, hq⟩ := hv
    refine wpAny_bind (wpAny_truthy_bool ?_)
    refine wpAny_pure ?_
    exact wpAny_pure ⟨_, rfl, hq⟩
  unfold richCompare
  simp only [oneThing_ref]
  refine wpAny_holding (wpAny_bind (wpAny_cRoomFor hu ?_))
  refine wpAny_bind (I.type.here (wpAny_bind (hb.here ?_)))
  split
  · rename_i q
    have e : subIn K tb (.ref C) = some false := by
      rcases Bool.or_eq_true_iff.mp hn with e | e
      · rw [beq_iff_eq.mp e] at q; simp at q
      · exact beq_iff_eq.mp e
    refine wpAny_bind ((looks_subIn X e).here ?_)
    simp only [Bool.false_eq_true, if_false]
    refine wpAny_bind (wpAny_mono one (fun r s' z => ?_) fun _ _ e => e)
    obtain ⟨v, rfl, hq⟩ := z
    exact wpAny_pure hq
  · refine wpAny_bind (wpAny_pure ?_)
    simp only [Bool.false_eq_true, if_false]
    refine wpAny_bind (wpAny_mono one (fun r s' z => ?_) fun _ _ e => e)
    obtain ⟨v, rfl, hq⟩ := z
    exact wpAny_pure hq
end
section
variable {X : Cx} {T : Bool} {τ : TEnv} {M : Mem} {P : PK'} {E : XKx} {a b e o : Expr} {es : List Expr} {pos p apos : Pos} {k : Nat} {fa C : Addr} {fd : FuncData} {ps : List Str} {S : Spc} {W : WX}
/-- a def's call around another place -/
theorem run_dA {A' : Around} {pins : List (Addr × Obj)} {σ : L2.St} {H : Hp} {s : Shared} {Q : VK} {us : List Value} {vs : List V} (F : FnD X.prog X.w X.K X.mg X.base k fa fd ps S) (hr : Room k A') (he : Env0 X.prog X.w X.K X.mg X.base A' X.stack s H) (hb : Binds X.K fd ps []) (tk : Takes X W)
    (I : Inv X pins σ H s) (r : Vals vs us) (h : toSp X.K S vs H Q (fun c d H2 => W c d σ H2)) : wpAny (model X.prog X.w) A' (call (.ref fa) us) (EP X pins σ Q) X.xe s := by
  have hl : (us ++ []).length = ps.length := by rw [List.append_nil, ← r.length]; exact F.len _ _ _ _ h
  have hbb := hb s us I.kIn hl
  rw [List.append_nil] at hbb
  refine wpAny_call (codeAny_mono (F.run A' X.stack s H ⟨us, []⟩ us vs Q _ hr he hbb r h) fun r s' hq => ?_)
  cases r with
  | error e => exact tk e s' (XE.of_call I (fun cls d H' h => h) hq)
  | ok fl =>
    cases fl with
    | ret u => exact I.after hq
    | next => exact False.elim hq
    | brk => exact False.elim hq
    | cont => exact False.elim hq
/-- x != y, x an instance of the class at C with an own __eq__ at fa, without an own __ne__ -/
theorem o_neOwn {x y : Dat} {t : Value} (F : FnD X.prog X.w X.K X.mg X.base k fa fd ps S) (hr : Room (k + 1) X.A) (hs : PySem.W.findIn X.K (.ref C) "__eq__" = some (some (.ref fa))) (hf : PySem.W.isFn X.K (.ref fa) = true)
    (hne : PySem.W.findIn X.K (.ref C) "__ne__" = some (some (.builtin "object.__ne__"))) (hm : PySem.W.mroIn X.K C (.type "object") = some true) (hb : Binds X.K fd ps [])
    (hx : IsI C "__eq__" M x) (ty : TyD X.K M y t) (hn : PySem.W.notFirst X.K C t = true) (h : S [x, y] M (UpP fun d M2 => ∃ b, d = .bl b ∧ P (.bl (!b)) M2) (UpP E0')) : OP X T (compareOp .NotEq) x y M P := by
  intro G H v u hH dx dy Q hP pins s σ v' u' _ I rx ry
  obtain ⟨a, dxa, fs, rfl, ea, _⟩ := hx.get hH dx
  obtain rfl : v' = Value.ref a := rx
  obtain ⟨mA, J, _⟩ := ins_get I.hok ea
  obtain ⟨od, J, _⟩ := J.look
  obtain ⟨m, hF⟩ := I.fr
  obtain ⟨Pr, Z, pz, _⟩ := kit_of I ry (tyD_ok ty hH dy)
  have hsp : toSp X.K S [.ref a, u] H (fun z H' => ∃ b, z = .bl b ∧ Q (.bl (!b)) H') (fun _ _ _ => False) :=
    ap_toSp (ap_all h) (.cons dx (.cons dy .nil)) hH (fun d M2 z G2 H2 ⟨b, ed, hp⟩ s2 h2 dz => by subst ed; exact ⟨b, dz.bl_inv, hP _ _ _ _ _ hp s2 h2 den_bl⟩) noX
  refine ne_K (tb := t) hr.units0 hr.in1.units0 hF I.ok.mod.kin J (Z.ty _ _ I.kIn pz) hn hne hs hf hm ?_
  refine wpAny_mono (run_dA (W := fun _ _ _ _ => False) (us := [.ref a, u']) (vs := [.ref a, u]) F hr.in1 I.env0.in1 hb takes0 I (.cons rfl (.cons ry .nil)) hsp) (fun r s' q => ?_) fun _ _ z => z
  obtain ⟨z, H', I', rz, b, ez, q⟩ := q
  subst ez
  cases rz
  exact ⟨b, rfl, .bl (!b), H', I', rfl, q⟩
/-- x op y, both of the class at C -/
theorem cmpBack_ref {Q : Value → Shared → Prop} {r : Value} {s' : Shared} {a : Addr} (e : r = .ref a) (h : Q r s') : PySem.W.CmpBack Q r s' := by subst e; exact h
theorem o_binOwn {op : Operator} {x y : Dat} (F : FnD X.prog X.w X.K X.mg X.base k fa fd ps S) (hr : Room k X.A) (hs : PySem.W.findIn X.K (.ref C) (PySem.dunder op.info.2) = some (some (.ref fa))) (hf : PySem.W.isFn X.K (.ref fa) = true) (hb : Binds X.K fd ps []) (hc : PySem.W.selfFirst X.K C = true)
    (hx : ∀ M, IsI C "__eq__" M x) (hy : ∀ M, IsI C "__eq__" M y) (h : S [x, y] M (UpP fun d M2 => isR d = true ∧ P d M2) (UpP E0')) : OP X T (binaryOp op) x y M P := by
  intro G H v u hH dx dy Q hP pins s σ v' u' _ I rx ry
  obtain ⟨a, dxa, fs, rfl, ea, _⟩ := (hx M).get hH dx
  obtain ⟨b, dxb, fsb, rfl, eb, _⟩ := (hy M).get hH dy
  obtain rfl : v' = Value.ref a := rx
  obtain rfl : u' = Value.ref b := ry
  obtain ⟨mA, J, _⟩ := ins_get I.hok ea
  obtain ⟨od, J, _⟩ := J.look
  obtain ⟨mB, J2, _⟩ := ins_get I.hok eb
  obtain ⟨od2, J2, _⟩ := J2.look
  obtain ⟨m, hF⟩ := I.fr
  have hsp : toSp X.K S [.ref a, .ref b] H (fun z H' => (∃ c, z = .ref c) ∧ Q z H') (fun _ _ _ => False) :=
    ap_toSp (ap_all h) (.cons dx (.cons dy .nil)) hH (fun d M2 z G2 H2 ⟨hd, hp⟩ s2 h2 dz => ⟨den_isR hd dz, hP _ _ _ _ _ hp s2 h2 dz⟩) noX
  refine PySem.W.binop_K hF I.ok.mod.kin J J2.type hc hs hf ?_
  refine wpAny_mono (run_d (dsv := []) (dvs := []) (W := fun _ _ _ _ => False) (us := [.ref a, .ref b]) (vs := [.ref a, .ref b]) F hr hb .nil takes0 I (.cons rfl (.cons rfl .nil)) (by rw [List.append_nil]; exact hsp)) (fun r s' q => ?_) fun _ _ z => z
  obtain ⟨z, H', I', rz, ⟨c, rfl⟩, q⟩ := q
  obtain rfl : r = Value.ref c := rz
  exact ⟨.ref c, H', I', rfl, q⟩
/-- x op n, n a whole number -/
theorem o_binOwnI {op : Operator} {x : Dat} {n : Int} {fo ro : Option Value} (F : FnD X.prog X.w X.K X.mg X.base k fa fd ps S) (hr : Room k X.A) (hs : PySem.W.findIn X.K (.ref C) (PySem.dunder op.info.2) = some (some (.ref fa))) (hf : PySem.W.isFn X.K (.ref fa) = true) (hb : Binds X.K fd ps []) (hc : PySem.W.selfFirst X.K C = true)
    (hrr : PySem.W.findIn X.K (.ref C) (dunderR op.info.2) = some none) (h1 : PySem.W.findIn X.K (.type "int") (PySem.dunder op.info.2) = some fo) (h2 : PySem.W.findIn X.K (.type "int") (dunderR op.info.2) = some ro) (hsub : PySem.W.subIn X.K (.type "int") (.ref C) = some false)
    (hx : ∀ M, IsI C "__eq__" M x) (h : S [x, .int n] M (UpP fun d M2 => isR d = true ∧ P d M2) (UpP E0')) : OP X T (binaryOp op) x (.int n) M P := by
  intro G H v u hH dx dy Q hP pins s σ v' u' _ I rx ry
  obtain ⟨a, dxa, fs, rfl, ea, _⟩ := (hx M).get hH dx
  obtain rfl : v' = Value.ref a := rx
  obtain ⟨mA, J, _⟩ := ins_get I.hok ea
  obtain ⟨od, J, _⟩ := J.look
  obtain ⟨m, hF⟩ := I.fr
  have eu := dy.int_inv
  subst eu
  obtain ⟨t, rfl⟩ := ry
  have hsp : toSp X.K S [.ref a, .int n] H (fun z H' => (∃ c, z = .ref c) ∧ Q z H') (fun _ _ _ => False) :=
    ap_toSp (ap_all h) (.cons dx (.cons den_int .nil)) hH (fun d M2 z G2 H2 ⟨hd, hp⟩ s2 h2 dz => ⟨den_isR hd dz, hP _ _ _ _ _ hp s2 h2 dz⟩) noX
  refine PySem.W.ksp_binT (T := "int") hF I.ok.mod.kin J rfl hc hs hf hrr (.inl rfl) h1 h2 hsub ?_
  refine wpAny_mono (run_d (dsv := []) (dvs := []) (W := fun _ _ _ _ => False) (us := [.ref a, .int n t]) (vs := [.ref a, .int n]) F hr hb .nil takes0 I (.cons rfl (.cons ⟨t, rfl⟩ .nil)) (by rw [List.append_nil]; exact hsp)) (fun r s' q => ?_) fun _ _ z => z
  obtain ⟨z, H', I', rz, ⟨c, rfl⟩, q⟩ := q
  obtain rfl : r = Value.ref c := rz
  exact ⟨.ref c, H', I', rfl, q⟩
theorem nf_self {K : PySem.W.Frag} {C : Addr} : PySem.W.notFirst K C (.ref C) = true := by
  unfold PySem.W.notFirst; simp
/-- x == y, x != y of one class, by what its __eq__ computes -/
theorem r_eqOwn {x y : Dat} {m : Res Bool} {Q : Bool → Prop} {E1 : Er → Prop} {t : Value} (F : FnD X.prog X.w X.K X.mg X.base k fa fd ps S) (hr : Room k X.A) (mt : Meth X.K C "__eq__" fa) (hb : Binds X.K fd ps []) (hx : ∀ M, IsI C "__eq__" M x) (ty : ∀ M, TyD X.K M y t) (hn : PySem.W.notFirst X.K C t = true)
    (hS : ∀ (P' : PK') (E' : XKx), m.Out (fun r => P' (.bl r) M) (fun _ => False) → S [x, y] M P' E') (h : m.ne.Out Q E1) (hk : ∀ b, Q b → P (.bl b) M) : OP X T (compareOp .Eq) x y M P :=
  o_eqOwn F hr mt.1 mt.2 hb (hx M) (ty M) hn (hS _ _ (out_mono (ne_out (E' := fun _ => False) h) (fun r q => UpP.mk ⟨r, rfl, hk r q⟩) fun _ z => z))
theorem r_neOwn {x y : Dat} {m : Res Bool} {Q : Bool → Prop} {E1 : Er → Prop} {t : Value} (F : FnD X.prog X.w X.K X.mg X.base k fa fd ps S) (hr : Room (k + 1) X.A) (mt : Meth X.K C "__eq__" fa) (hne : PySem.W.findIn X.K (.ref C) "__ne__" = some (some (.builtin "object.__ne__"))) (hl : ICls X.K C) (hb : Binds X.K fd ps []) (hx : ∀ M, IsI C "__eq__" M x) (ty : ∀ M, TyD X.K M y t) (hn : PySem.W.notFirst X.K C t = true)
    (hS : ∀ (P' : PK') (E' : XKx), m.Out (fun r => P' (.bl r) M) (fun _ => False) → S [x, y] M P' E') (h : m.ne.Out Q E1) (hk : ∀ b, Q b → P (.bl (!b)) M) : OP X T (compareOp .NotEq) x y M P :=
  o_neOwn F hr mt.1 mt.2 hne hl.mr hb (hx M) (ty M) hn (hS _ _ (out_mono (ne_out (E' := fun _ => False) h) (fun r q => UpP.mk ⟨r, rfl, hk r q⟩) fun _ z => z))
/-- len(x), x with an own __len__ -/
theorem bc_w {f : Value} {ds : List Dat} (h : ∀ G H vs, Hst X.K G M H → DenL X.K G ds vs → ∀ Q, CE' X.K G M H P Q → ∀ pins s σ us, Inv X pins σ H s → Vals vs us → wpAny (model X.prog X.w) X.A (call f us) (EP X pins σ Q) X.xe s) : BC X f ds M P :=
  ⟨fun vs H Q => ∀ pins s σ us, Inv X pins σ H s → Vals vs us → wpAny (model X.prog X.w) X.A (call f us) (EP X pins σ Q) X.xe s, fun pins s σ H vs us Q I r h => h pins s σ us I r, fun G H vs hH dv Q hP pins s σ us I r => h G H vs hH dv Q hP pins s σ us I r⟩
theorem c_lenOwn {x : Dat} (F : FnD X.prog X.w X.K X.mg X.base k fa fd ps S) (hr : Room (k + 1) X.A) (hs : PySem.W.findIn X.K (.ref C) "__len__" = some (some (.ref fa))) (hf : PySem.W.isFn X.K (.ref fa) = true) (hb : Binds X.K fd ps [])
    (hx : ∀ M, IsI C "__eq__" M x) (h : S [x] M (UpP fun d M2 => ∃ i, d = .int i ∧ (0 ≤ i ∧ i < 2 ^ 63) ∧ P d M2) (UpP E0')) : BC X (.builtin "len") [x] M P := bc_w fun G H vs hH dv Q hP pins s σ us I r => by
  obtain ⟨v, rfl, dx⟩ := one_inv dv
  obtain ⟨a, dxa, fs, rfl, ea, _⟩ := (hx M).get hH dx
  cases r with
  | cons r1 rr =>
    cases rr
    obtain rfl := r1
    obtain ⟨mA, J, _⟩ := ins_get I.hok ea
    obtain ⟨od, J, _⟩ := J.look
    obtain ⟨m, hF⟩ := I.fr
    have hsp : toSp X.K S [.ref a] H (fun z H' => ∃ i, z = .int i ∧ (0 ≤ i ∧ i < 2 ^ 63) ∧ Q (.int i) H') (fun _ _ _ => False) :=
      ap_toSp (ap_all h) (.cons dx .nil) hH (fun d M2 z G2 H2 ⟨i, ed, hi, hp⟩ s2 h2 dz => by subst ed; exact ⟨i, dz.int_inv, hi, hP _ _ _ _ _ hp s2 h2 den_int⟩) noX
    refine PySem.W.len_K hF I.ok.mod.kin J hs hf ?_
    refine wpAny_mono (run_dA (W := fun _ _ _ _ => False) (us := [.ref a]) (vs := [.ref a]) F hr.in1 I.env0.in1 hb takes0 I (.cons rfl .nil) hsp) (fun r s' q => ?_) fun _ _ z => z
    obtain ⟨z, H', I', rz, i, ez, hi, q⟩ := q
    subst ez
    obtain ⟨t, rfl⟩ := rz
    exact ⟨hi, .int i, H', I'.tok _, ⟨_, rfl⟩, q⟩
def plenO (m : Res Int) : Res Int := m.ne.bind fun i => guard (0 ≤ i ∧ i < 2 ^ 63) i
theorem lenO {Q : Int → Prop} {E1 : Er → Prop} {ex : Er → Exn} : ∀ {m : Res Int} (h : (plenO m).Out Q E1) (hk : ∀ i, Q i → P (.int i) M),
    m.Out (fun r => UpP (fun (d : Dat) (M2 : Mem) => ∃ i, d = Dat.int i ∧ (0 ≤ i ∧ i < 2 ^ 63) ∧ P d M2) (Dat.int r) M) (fun x => UpP E0' (ex x) M)
  | .ok i, h, hk => by
    have h2 := gd h
    exact UpP.mk (P := fun (d : Dat) (M2 : Mem) => ∃ i, d = Dat.int i ∧ (0 ≤ i ∧ i < 2 ^ 63) ∧ P d M2) ⟨i, rfl, h2.1, hk _ h2.2⟩
  | .err _, h, _ => h.elim
  | .bad, h, _ => h.elim
  | .all f, h, hk => fun q => lenO (m := f q) (h q) hk
/-- x[y], x with an own __getitem__ -/
def OwnIx (X : Cx) (M : Mem) (P : PK') (E : XKx) (x y : Dat) : Prop := ∃ C fa k fd ps S, FnD X.prog X.w X.K X.mg X.base k fa fd ps S ∧ Room (k + 1) X.A ∧ PySem.W.findIn X.K (.ref C) "__getitem__" = some (some (.ref fa)) ∧ PySem.W.fnIn X.K fa = true ∧ PySem.W.isFn X.K (.ref fa) = true ∧ Binds X.K fd ps [] ∧ IsI C "__eq__" M x ∧ S [x, y] M (UpP P) (UpP E)
theorem ex_ixOwn (h : EX X T a τ M (fun x M1 => EX X T b τ M1 (fun y M2 => OwnIx X M2 P E x y) E) E) (hs : ∀ x i, subscripted b true x i = runValue (.builtin "lifetime.subscript" ⟨[x, i], []⟩) := by intro _ _; with_unfolding_all rfl) : EX X T (.Subscript a b pos) τ M P E := by
  refine .mk ?_; intro W tk σ G H hE hH Q hP hX pins s k0 I
  have hA := h.run W tk σ G H hE hH (fun x H1 => tW X T b σ H1 fun y H2 => ∃ C fa k fd ps S a dx fs, FnD X.prog X.w X.K X.mg X.base k fa fd ps S ∧ Room (k + 1) X.A ∧ PySem.W.findIn X.K (.ref C) "__getitem__" = some (some (.ref fa)) ∧ PySem.W.fnIn X.K fa = true ∧ PySem.W.isFn X.K (.ref fa) = true ∧ Binds X.K fd ps [] ∧
      x = .ref a ∧ H2 a = some (.ins C dx fs) ∧ toSp X.K S [x, y] H2 Q (fun c d H3 => W c d σ H3))
    (fun x M1 v G1 H1 hb s1 h1 dx => hb.run W tk σ G1 H1 (hE.up s1.gg) h1 _ (fun y M2 u G2 H2 ⟨C, fa, k, fd, ps, S, F, hr, f1, f2, f3, bb, hi, hS⟩ s2 h2 dy => by
      obtain ⟨a, dxa, fs, e1, e2, _⟩ := hi.get h2 (dx.up s2.gg)
      exact ⟨C, fa, k, fd, ps, S, a, dxa, fs, F, hr, f1, f2, f3, bb, e1, e2, ap_toSp (ap_all hS) (.cons (dx.up s2.gg) (.cons dy .nil)) h2 (hP.step (s1.trans s2)) (hX.step (s1.trans s2))⟩) (hX.step s1)) hX
  refine PyProof.Rows.Subscript_ (thnT k0 (hA pins s k0 I) fun v s1 k1 ⟨x, H1, I1, r1, q1⟩ => thn (q1 pins s1 k1 I1) fun u s2 ⟨y, H2, I2, r2, C, fa, k, fd, ps, S, a, dx, fs, F, hr, f1, f2, f3, bb, ex, ea, q2⟩ => ?_)
  subst ex
  obtain rfl : v = Value.ref a := r1
  obtain ⟨mA, J, _⟩ := ins_get I2.hok ea
  obtain ⟨od, J, _⟩ := J.look
  obtain ⟨m, hF⟩ := I2.fr
  exact PySem.W.sub_K hF I2.ok.mod.kin J f1 f2 f3 (run_dA (us := [.ref a, u]) (vs := [.ref a, y]) F hr.in1 I2.env0.in1 bb tk I2 (.cons rfl (.cons r2 .nil)) q2) (hs _ _)
/-- a property of a class that is told -/
theorem ex_propD {n : Str} (h : EX X T e τ M (fun d M1 => ∃ C q g k fd ps S, Cls X.K C ∧ PropOf X.K C n q g ∧ FnD X.prog X.w X.K X.mg X.base k g fd ps S ∧ Room (k + 1) X.A ∧ Binds X.K fd ps [] ∧ (∃ m, IsI C m M1 d) ∧ AP S [d] M1 P E0') E) (hab : attributeBase e n X.env (eval e X.env) = eval e X.env := by rfl) : EX X T (.Attribute e n pos) τ M P E := by
  refine .mk ?_; intro W tk σ G H hE hH Q hP hX
  intro pins s k0 I
  have hO := h.run W tk σ G H hE hH (fun x H1 => ∃ C q g k fd ps S a dx fs, Cls X.K C ∧ PropOf X.K C n q g ∧ FnD X.prog X.w X.K X.mg X.base k g fd ps S ∧ Room (k + 1) X.A ∧ Binds X.K fd ps [] ∧ x = .ref a ∧ H1 a = some (.ins C dx fs) ∧ toSp X.K S [x] H1 Q L2.E0) (fun d M1 v G1 H1 ⟨C, q, g, k, fd, ps, S, c, hp, F, hr, hb, ⟨m, hi⟩, ha⟩ s1 h1 dv => by
    obtain ⟨a, dx, fs, e1, e2, e3⟩ := hi.get h1 dv
    exact ⟨C, q, g, k, fd, ps, S, a, dx, fs, c, hp, F, hr, hb, e1, e2, ap_toSp ha (.cons dv .nil) h1 (hP.step s1) noX⟩) hX
  refine attr_of hab (thn (hO pins s k0 I) fun u s1 ⟨x, H1, I1, rx, C, q, g, k, fd, ps, S, a, dx, fs, c, hp, F, hr, hb, ex, ea, qq⟩ => ?_)
  subst ex
  obtain rfl : u = Value.ref a := rx
  exact getprop_ok (dvs := []) I1 ea c hp F hr hb .nil passL qq
end
/-! ### a comprehension that changes cells -/
section
variable {X : Cx} {T : Bool} {τ : TEnv} {M : Mem} {P : PK'} {E : XKx} {t e iter tg : Expr} {pos : Pos} {α β σ ρ : Type} {E1 : Er → Prop}
theorem compST {xs : List α} (f : α → Dat) (f2 : β → Dat) {g : σ → α → Res (Option β × σ)} {s0 : σ} (Mf : σ → Mem) {Ok : Mem → Prop} {vs : List Nat} {scope : Scope} {ifs : List Expr} {elt : Expr} {Q : List β × σ → Prop} (h : (compS g xs s0).Out Q E1) (hOk : ∀ s, Ok (Mf s))
    (step : ∀ x s0 (N : Option β × σ → Prop), (g s0 x).Out N (fun _ => False) → ∀ (s : Shared) (H : Hp) (C : Addr) (cl : List (Str × Addr)) (fp : List Addr), GC (Cx.Bk X scope s H C cl fp) vs tg (f x) (wipeT τ vs) (Mf s0) (fun τ2 M2 => ∀ (s : Shared) (H : Hp) (C : Addr) (cl : List (Str × Addr)) (fp : List Addr),
        EFs (Cx.Bk X scope s H C cl fp) ifs τ2 M2 (fun b M3 => (b = true → ∀ (s : Shared) (H : Hp) (C : Addr) (cl : List (Str × Addr)) (fp : List Addr), EX (Cx.Bk X scope s H C cl fp) false elt τ2 M3 (fun y M4 => ∃ v s2, M4 = Mf s2 ∧ y = f2 v ∧ N (some v, s2)) E0') ∧ (b = false → ∃ s2, M3 = Mf s2 ∧ N (none, s2)))))
    (fin : ∀ r, Q r → P (lstD f2 r.1) (Mf r.2)) :
    LcQ X scope vs tg ifs elt τ (xs.map f) (Mf s0) Ok P := by
  unfold compS at h
  split at h
  case isFalse => exact h.elim
  rename_i hl
  have h : (compSL g xs s0).Out Q (fun _ => False) := ne_out h
  refine ⟨by rw [List.length_map]; exact hl, fun i acc M => ∃ s, M = Mf s ∧ ∃ ys : List β, acc = ys.map f2 ∧ (compSL g (xs.drop i) s).Out (fun r => Q (ys ++ r.1, r.2)) (fun _ => False), ⟨s0, rfl, [], rfl, h⟩, fun i acc M ⟨s, e, _⟩ => by rw [e]; exact hOk s, ?_, ?_⟩
  · rintro i d acc M hd ⟨s0, rfl, ys, rfl, h2⟩ s H C cl fp
    rw [List.getElem?_map] at hd
    obtain ⟨x, hx, rfl⟩ := Option.map_eq_some_iff.mp hd
    obtain ⟨hi, rfl⟩ := List.getElem?_eq_some_iff.mp hx
    rw [List.drop_eq_getElem_cons hi] at h2
    refine GC.impP (fun τ2 M2 hw => ?_) (step _ s0 _ (ob h2) s H C cl fp)
    intro s H C cl fp σ G H' hE hH Q' hQ
    refine hw s H C cl fp σ G H' hE hH Q' fun b M3 G3 H3 ⟨p1, p2⟩ s3 h3 => hQ b M3 G3 H3 ⟨fun eb s H C cl fp => ?_, fun eb => ?_⟩ s3 h3
    · refine (p1 eb s H C cl fp).imp (fun y M4 ⟨v, s2, e4, ev, hv⟩ => ?_) fun _ _ x => x
      subst ev
      refine ⟨s2, e4, ys ++ [v], by simp, ?_⟩
      have hv := ob hv
      refine out_mono hv (fun r q => ?_) fun _ z => z
      have : Q (ys ++ ((some v).toList ++ r.1), r.2) := q
      simpa using this
    · obtain ⟨s2, e3, hv⟩ := p2 eb
      refine ⟨s2, e3, ys, rfl, ?_⟩
      exact out_mono (ob hv) (fun r q => by have : Q (ys ++ ((none : Option β).toList ++ r.1), r.2) := q; simpa using this) fun _ z => z
  · rintro acc M ⟨s, rfl, ys, rfl, h2⟩
    rw [List.length_map, List.drop_length] at h2
    have : Q (ys ++ [], s) := h2
    rw [List.append_nil] at this
    exact fin (ys, s) this
end
end Kh

set_option Elab.async false
set_option linter.all false
set_option maxRecDepth 100000
set_option maxHeartbeats 4000000
namespace Kh
open PySem PySem.Spec L2
/-! ### text[::-1] -/
def prevS (z : Str) : Res Str := guard (z.length ≤ sizeLine) ⟨(signsL z).reverse.toArray⟩
theorem fm_map {α β : Type} {f : α → Option β} {g : α → β} : ∀ {l : List α}, (∀ x ∈ l, f x = some (g x)) → l.filterMap f = l.map g
  | [], _ => rfl
  | x :: l, h => by rw [List.filterMap_cons, h x List.mem_cons_self, List.map_cons, fm_map fun y hy => h y (List.mem_cons_of_mem _ hy)]
theorem rev_idx (z : Str) : (Builtin.Str.strSliceIndices none none (-1) z.length).filterMap (z.cps[·]?) = (signsL z).reverse := by
  have hz : z.cps.size = z.length := rfl
  have e : Builtin.Str.strSliceIndices none none (-1) z.length = (List.range z.length).map fun (k : Nat) => z.length - 1 - k := by
    unfold Builtin.Str.strSliceIndices sliceRange
    simp only [show ¬ ((-1 : Int) > 0) by decide, if_false]
    have c : (if ((z.length : Int) - 1 > -1) then (((z.length : Int) - 1) - (-1) - (-1) - 1) / (-(-1)) else 0).toNat = z.length := by
      split
      · have : (((z.length : Int) - 1) - (-1) - (-1) - 1) / (-(-1)) = z.length := by
          rw [show (-(-1) : Int) = 1 from rfl, Int.ediv_one]; omega
        rw [this]; simp
      · omega
    rw [c]
    refine List.map_congr_left fun k hk => ?_
    have := List.mem_range.mp hk
    omega
  rw [e, List.filterMap_map]
  refine List.ext_getElem? fun i => ?_
  have e2 : (List.range z.length).filterMap ((z.cps[·]?) ∘ fun (k : Nat) => z.length - 1 - k) = (List.range z.length).map fun k => z.cps.toList.getD (z.length - 1 - k) 0 := by
    refine fm_map fun k hk => ?_
    have := List.mem_range.mp hk
    show z.cps[z.length - 1 - k]? = some _
    have hlt : z.length - 1 - k < z.cps.size := by rw [hz]; omega
    rw [Array.getElem?_eq_getElem hlt]
    simp [List.getD, hlt]
  rw [e2]
  by_cases hi : i < z.length
  · have hl : (signsL z).length = z.length := by simp [hz]
    rw [List.getElem?_map, List.getElem?_range hi, List.getElem?_reverse (by rw [hl]; exact hi), hl]
    simp only [Option.map_some]
    have hlt : z.length - 1 - i < (signsL z).length := by rw [hl]; omega
    rw [List.getElem?_eq_getElem hlt]
    simp [List.getD, signsL]
    have : z.length - 1 - i < z.cps.size := by rw [hz]; omega
    simp [this]
  · have hl : (signsL z).length = z.length := by simp [hz]
    rw [List.getElem?_eq_none (by simp; omega), List.getElem?_eq_none (by rw [List.length_reverse, hl]; omega)]
section
variable {X : Cx} {T : Bool} {τ : TEnv} {M : Mem} {P : PK'} {E : XKx} {e : Expr} {pos p1 p2 p3 : Pos} {kk : Nat}
open PyProof.Rows in
theorem ex_revS (h : EX X T e τ M (fun d M1 => ∃ z Q E1, d = .str z ∧ (prevS z).Out Q E1 ∧ ∀ r, Q r → P (.str r) M1) E) : EX X T (.Subscript e (.Slice none none (some (.UnaryOp .USub (.Constant (.int 1) kk p1) p2)) p3) pos) τ M P E := .mk fun W tk σ G H hE hH Q hP hX pins s kt I => by
  have hO := h.run W tk σ G H hE hH (fun v H1 => ∃ z, v = .str z ∧ z.length ≤ sizeLine ∧ Q (.str ⟨(signsL z).reverse.toArray⟩) H1) (fun d M1 v G1 H1 ⟨z, Q', E1, ed, hg, hk⟩ s1 h1 dv => by
    subst ed
    exact ⟨z, dv.str_inv, (gd hg).1, hP _ _ _ _ _ (hk _ (gd hg).2) s1 h1 den_str⟩) hX
  refine Subscript_ (thnT kt (hO pins s kt I) fun v s1 k1 ⟨x, H1, I1, r1, z, ex, hz, q⟩ => ?_)
  subst ex
  obtain ⟨t, rfl⟩ := r1
  have hst : PO X (some (.UnaryOp .USub (.Constant (.int 1) kk p1) p2)) (tPart (tUn (rU fun i => .int (-i)) (tC (.int 1)))) := po_some (pe_un un_neg pe_int)
  refine wpAny_Slice (thn (po_none.run pins s1 σ H1 (fun o H2 => o = none ∧ H2 = H1) I1 ⟨rfl, rfl⟩) fun vl s2 ⟨l, H2, I2, pl, el, e2⟩ => ?_)
  subst el e2
  refine thn (po_none.run pins s2 σ H2 (fun o H3 => o = none ∧ H3 = H2) I2 ⟨rfl, rfl⟩) fun vu s3 ⟨u, H3, I3, pu, eu, e3⟩ => ?_
  subst eu e3
  refine thn (hst.run pins s3 σ H3 (fun o H4 => o = some (-1) ∧ H4 = H3) I3 ⟨1, rfl, -1, rfl, rfl, rfl⟩) fun vs s4 ⟨o, H4, I4, ps, eo, e4⟩ => ?_
  subst eo e4
  have I5 : Inv X pins σ H4 { s4 with heap := s4.heap.push { cls := .type "slice", data := .fields #[vl, vu, vs] } } := I4.kept (t' := s4.toks) fun b ob q => Heap.get?_push_of_some _ q
  obtain ⟨l', rfl, el⟩ := IsPart.raw pl
  obtain ⟨u', rfl, eu⟩ := IsPart.raw pu
  obtain ⟨st', rfl, es⟩ := IsPart.raw ps
  show wpAny (model X.prog X.w) X.A (subscriptTail e (.Slice none none (some (.UnaryOp .USub (.Constant (.int 1) kk p1) p2)) p3) (.str z t) (.ref s4.heap.objs.size)) (EP X pins σ Q) X.xe { s4 with heap := s4.heap.push { cls := .type "slice", data := .fields #[partValue l', partValue u', partValue st'] } }
  refine tail_any (ops := [.str z t, .ref s4.heap.objs.size]) (typeIs_str _ _ _) F.slot_str_getitem.lookup ?_ (by with_unfolding_all rfl)
  have g1 : (st'.map (·.1)).getD 1 = -1 := by rw [es]; rfl
  refine wpAny_getItem_str_slice (l := l') (u := u') (st := st') ⟨_, Heap.get?_push_size _ rfl, rfl, rfl⟩ (by rw [g1]; decide) ?_
  unfold sliceMade slicePicked
  rw [g1, el, eu, if_neg (by simp), rev_idx]
  exact ⟨by show (signsL z).reverse.toArray.size ≤ _; simp; exact hz, .str _, H4, I5.tok _, ⟨_, rfl⟩, q⟩
end
/-! ### a property by an instance's class -/
def PrD (P : Program) (w : World) (K : PySem.W.Frag) (mg : Str → Option Value) (base : Heap) (A : Around) {α : Type} (n : Str) (d : Dat) (m : Res α) (e : α → Dat) : Prop :=
  ∀ M (P' : PK') E1, m.ne.Out (fun r => P' (e r) M) E1 → ∃ C q g k fd ps S, Cls K C ∧ PropOf K C n q g ∧ FnD P w K mg base k g fd ps S ∧ Room (k + 1) A ∧ Binds K fd ps [] ∧ (∃ mm, ∀ M, IsI C mm M d) ∧ S [d] M (UpP P') (UpP E0')
theorem prD {X : Cx} {α : Type} {M : Mem} {P : PK'} {n : Str} {d : Dat} {m : Res α} {e : α → Dat} {Q : α → Prop} {E1 : Er → Prop} (hp : PrD X.prog X.w X.K X.mg X.base X.A n d m e) (h : m.ne.Out Q E1) (hk : ∀ r, Q r → P (e r) M) :
    ∃ C q g k fd ps S, Cls X.K C ∧ PropOf X.K C n q g ∧ FnD X.prog X.w X.K X.mg X.base k g fd ps S ∧ Room (k + 1) X.A ∧ Binds X.K fd ps [] ∧ (∃ m, IsI C m M d) ∧ AP S [d] M P E0' := by
  obtain ⟨C, q, g, k, fd, ps, S, h1, h2, h3, h4, h5, ⟨mm, h6⟩, h7⟩ := hp M P E1 (out_mono h hk fun _ z => z)
  exact ⟨C, q, g, k, fd, ps, S, h1, h2, h3, h4, h5, ⟨mm, h6 M⟩, ap_all h7⟩
end Kh

set_option Elab.async false
set_option linter.all false
set_option maxRecDepth 100000
set_option maxHeartbeats 1000000
namespace Kh
open PySem PySem.Spec L2
/-! ### for x in an instance whose __iter__ gives iter(a text of its own) -/
def itSObj (z : Str) (t : Tok) : Obj := { cls := .type (strIterType z), data := .fields #[.str z t, .int 0 0] }
def SItO (z : Str) (it : Addr) : HO := .ext fun h => ∃ t, h.get? it = some (itSObj z t)
theorem sitO_ok {P : Program} {w : World} {H : Hp} {h : Heap} {z : Str} {it : Addr} {t : Tok} (e : h.get? it = some (itSObj z t)) : ObjOk P w H h it (SItO z it) := ⟨⟨t, e⟩, ⟨_, e⟩, fun h1 h2 ⟨t, q⟩ k => ⟨t, k _ q⟩⟩
theorem call_iterS {prog : Program} {w : World} {A : Around} {E : Value → Shared → Prop} {s : Shared} {z : Str} {t : Tok} {Q : Value → Shared → Prop} (h : Q (.ref s.heap.objs.size) { s with heap := s.heap.push (itSObj z t) }) : wpAny (model prog w) A (call (.builtin "iter") [.str z t]) Q E s := by
  refine Calls.call_function_entry (by decide +kernel) (by decide +kernel) PySem.W.kdk_entry_iter (PySem.W.kdk_args_iter _) ?_
  unfold Builtin.«iter»
  refine wpAny_bind (m := someArgs "iter" 1 2 _) (wpAny_of_eq (a := [Value.str z t]) (by first | rfl | kernel_rfl!) ?_)
  show wpAny _ _ (pyIter (.str z t) >>= _) _ _ _
  refine wpAny_bind (wpAny_pyIter_strU ?_)
  exact wpAny_pure ⟨_, rfl, h⟩
def rIterS (n : Nat) : List V → Hp → VK → Prop := fun xs H Q => ∃ z, xs = [.str z] ∧ ∀ it, H it = Option.none → n ≤ it → Q (.ref it) (upd H it (SItO z it))
theorem cr_iterS {X : Cx} : CallR X (.builtin "iter") (rIterS X.s_0.heap.objs.size) := by
  intro pins s σ H xs us Q I r h
  obtain ⟨z, rfl, q⟩ := h
  cases r with
  | cons r1 rr =>
    cases rr
    obtain ⟨t, rfl⟩ := r1
    refine call_iterS ?_
    exact ⟨.ref s.heap.objs.size, _, I.laid (t' := s.toks) (fun b u e => Heap.get?_push_of_some _ e) (Nat.le_refl _) (sitO_ok (t := t) (Heap.get?_push_size _ rfl)), rfl, q _ (I.hok.fresh (Nat.le_refl _)) I.sz⟩
theorem run_w {CX : CXT} {P : Program} {w : World} {K : PySem.W.Frag} {mg : Str → Option Value} {base : Heap} {k : Nat} {f : Addr} {name qual : Str} {params : Arguments} {body : List Stmt} {scope : Scope} {dV kV doc pm cdv ct oc : Value} {an od : Option Addr}
    {osl : Array (Option Value)} {N ps : List Str} (lk : K.lookup f = some ⟨oc, od, .func (PySem.W.fnOf name qual params body scope dV kV doc pm an cdv ct), osl⟩) (hcd : PySem.W.codeIn K cdv qual = true) (S : FnScope N ps scope)
    {A : Around} {outer : List Env} {s : Shared} {H : Hp} {args : Args} {us : List Value} {vs : List V} {Q : VK} {E : XK} (hr : Room (k + 1) A) (e0 : Env0 P w K mg base A outer s H) (hb : BindsTo s (PySem.W.fnOf name qual params body scope dV kV doc pm an cdv ct) args (ps.zip us)) (r : Vals vs us) (hl : vs.length = ps.length)
    (hbody : tWSs (cxOf CX P w K mg base N qual scope f cdv A outer s H E) false body { nx := fun _ H' => Q .non H', rt := Q } (L2.start N vs) H) :
    codeAny (model P w) A (.call (.ref f) args) (CR CX outer P w H s Q E) s := by
  have KX : K.In s.heap := e0.mod.kin.keeps fun b o e => (e0.bs b o e).1
  have lim : s.heap.NoLimit := e0.mod.nolimit.keeps fun b o e => (e0.bs b o e).1
  have kinds : ∀ y ∈ ps.zip us, scope.names.lookup y.1 = some .local ∨ (scope.names.lookup y.1 = some .cell ∧ ((cellsFrom (s.heap.objs.size + 1) scope.names []).lookup y.1).isSome = true) := fun ⟨n, v⟩ hy => by
    rcases S.par n (List.of_mem_zip hy).1 with q | q
    · exact .inl q
    · exact .inr ⟨q, PySem.W.cellsFrom_some _ _ _ (.inl q)⟩
  refine codeAny_call_function hr.depth (KX _ _ lk) rfl S.co S.gen rfl (PySem.W.codeRec_of KX hcd) (hb _ _ _ _ ?_)
  refine wpAny_newFunctionEnv_cells S.kind kinds fun env he s1 x => ?_
  subst he
  refine ⟨lim.keeps x.toInCall.keep, codeAny_func ?_⟩
  have I : Inv (cxOf CX P w K mg base N qual scope f cdv A outer s H E) [] (L2.start N vs) H s1 := inv_start S hr.hd e0 hl r x
  refine wpAny_mono (hbody [] s1 tk_f I) (fun fl s' hs => ?_) fun e s' hs => hs
  cases fl with
  | ret u =>
    obtain ⟨v, σ', H', J, rv, q⟩ := hs
    exact ⟨v, H', J.os, J.bare, J.base, J.hok, rv, q⟩
  | next =>
    obtain ⟨σ', H', J, q⟩ := hs
    exact ⟨V.non, H', J.os, J.bare, J.base, J.hok, (rfl : Value.none = Value.none), q⟩
  | brk => obtain ⟨_, _, _, q⟩ := hs; exact False.elim q
  | cont => obtain ⟨_, _, _, q⟩ := hs; exact False.elim q
theorem body_it {X : Cx} {σ : L2.St} {H : Hp} {Q : VK} {a C dx : Addr} {fs : List (Str × V)} {nf : Str} {z : Str} {p1 p2 p3 p4 : Pos} (hN : X.N[0]? = some ("self" : Str)) (hvis : Vis X.env.scope "self") (hs : σ[0]? = some (some (.ref a))) (ha : H a = some (.ins C dx fs)) (hc : Cls X.K C) (hn : NoAttr X.K C nf) (hl : fs.lookup nf = some (.str z))
    (hg : Gl X "iter") (hm : X.mg "iter" = none) (hQ : ∀ it, H it = none → X.s_0.heap.objs.size ≤ it → Q (.ref it) (upd H it (SItO z it)))
    (hab : attributeBase (.Name "self" p2) nf X.env (eval (.Name "self" p2) X.env) = eval (.Name "self" p2) X.env := by rfl) : tW X false (.Call (.Name "iter" p1) [.Attribute (.Name "self" p2) nf p3] [] p4) σ H Q := fun pins s k I => by
  have hA : tWA X false [.Attribute (.Name "self" p2) nf p3] σ H (fun vs H1 => rIterS X.s_0.heap.objs.size vs H1 Q) :=
    wa_cons rfl (v_fld hab (tW_of (pe_var hN hvis (by decide) (by decide)) ⟨_, hs, a, C, dx, fs, .str z, rfl, ha, hc, hn, hl, tWA_of pa_nil ⟨z, rfl, hQ⟩⟩))
  refine wpAny_Call_Name_kw (ld_blt I hg hm (show bootBuiltins "iter" = some (.builtin "iter") from by decide +kernel) ?_ (by decide) (by decide))
  exact PyProof.Rows.callWith_builtin1 (thn (hA p4 pins s k I) fun us s1 ⟨vs, H1, I1, r1, q1⟩ => cr_iterS pins s1 σ H1 vs us Q I1 r1 q1) rfl rfl
/-- for x in o, [.. for x in o], o an instance -/
theorem ei_ownS {X : Cx} {tg e : Expr} {τ : TEnv} {M : Mem} {E : XKx} {PI' : List Dat → Mem → (Mem → Prop) → Prop} {C fa : Addr} {fd : FuncData} {qual nf : Str} {st : Stmt} {N : List Str} {p1 p2 p3 p4 p5 : Pos}
    (F : Fun X.K "__iter__" qual st fa fd) (Sc : FnScope N ["self"] (defScope st)) (hbd : defBody st = [.Return (some (.Call (.Name "iter" p1) [.Attribute (.Name "self" p2) nf p3] [] p4)) p5]) (mt : Meth X.K C "__iter__" fa) (hcl : Cls X.K C) (hna : NoAttr X.K C nf) (hm : X.mg "iter" = none) (hr : Room 1 X.A) (hb : Binds X.K fd ["self"] [])
    (hN : N[0]? = some ("self" : Str)) (hvis : Vis (defScope st) "self") (hg : ∀ cdv s H, Gl (cxOf (L2.CX X.prog X.w) X.prog X.w X.K X.mg X.base N qual (defScope st) fa cdv X.A X.stack s H (fun _ _ _ => False)) "iter")
    (h : EX X false e τ M (fun d M1 => ∃ z, d = .obj C [nf] [.str z] ∧ PI' (sgnD z) M1 anyM) E) : EI X tg e τ M PI' E := .mk fun W tk σ G H hE hH R hR hX pins s _ I => by
  have hO := h.run W tk σ G H hE hH (fun v H1 => ∃ a dx z, v = .ref a ∧ H1 a = some (.ins C dx [(nf, .str z)]) ∧ R (Its z) H1) (fun d M1 v G1 H1 ⟨z, ed, hp⟩ s1 h1 dv => by
    subst ed
    obtain ⟨a, dx, vs, rfl, g1, g2, g3⟩ := dv.obj_inv
    obtain ⟨u, rfl, d1⟩ := one_inv g3
    rw [d1.str_inv] at g1
    exact ⟨a, dx, z, rfl, h1.sub _ _ g1, hR _ _ _ _ _ _ hp s1 h1 walkD_str⟩) hX
  refine thn (hO pins s tk_f I) fun v s1 ⟨x, H1, I1, r1, a, dx, z, ex, ea, q⟩ => ?_
  subst ex
  obtain rfl : v = Value.ref a := r1
  obtain ⟨mA, J, _⟩ := ins_get I1.hok ea
  obtain ⟨od, J, _⟩ := J.look
  obtain ⟨m, hF⟩ := I1.fr
  obtain ⟨oc, od2, kV, doc, pm, an, cdv, ct, osl, rfl, lk, hcd⟩ := F.ex
  refine PySem.W.owit_iter hF I1.ok.mod.kin J mt.1 mt.2 ?_
  have hbb := hb s1 [.ref a] I1.kIn rfl
  rw [List.append_nil] at hbb
  refine wpAny_call (codeAny_mono (run_w (CX := L2.CX X.prog X.w) (k := 0) (Q := fun v H' => ∃ it, v = .ref it ∧ H1 it = none ∧ s1.heap.objs.size ≤ it ∧ H' = upd H1 it (SItO z it)) (E := fun _ _ _ => False) (vs := [.ref a]) lk hcd Sc hr I1.env0 hbb (.cons rfl .nil) rfl ?_) fun r s' hq => ?_)
  · rw [hbd]
    refine ws_step' (s_ret ?_)
    refine body_it hN hvis rfl ea hcl hna (by rw [List.lookup_cons, beq_self_eq_true]) (hg _ _ _) hm fun it h1 h2 => ⟨it, rfl, h1, h2, rfl⟩
  · cases r with
    | error e => exact (takes0 (X := X)) e s' (XE.of_call (W := fun _ _ _ _ => False) I1 (fun cls d H' h => h) hq)
    | ok fl =>
      cases fl with
      | next => exact False.elim hq
      | brk => exact False.elim hq
      | cont => exact False.elim hq
      | ret u =>
        obtain ⟨v', H', I', rv, it, ev, hfr, hge, eH⟩ := I1.after hq
        subst ev
        obtain rfl : u = Value.ref it := rv
        subst eH
        obtain ⟨⟨t, ho⟩, _⟩ := (I'.hok it _ upd_same : ObjOk X.prog X.w _ s'.heap it (SItO z it))
        have st0 : s'.heap.IsStrIter it (strIterType z) z t 0 := ⟨_, ho, rfl, rfl⟩
        have hty : strIterType z = "str_ascii_iterator" ∨ strIterType z = "str_iterator" := by unfold strIterType; split <;> simp
        have hfin : PIE X pins σ tg R (.ref it) s' := ⟨it, [it], _, Its z, H1, rfl, by
          have := ItX.inv_drop I' (show (upd H1 it (SItO z it)) it = some (.ext _) from upd_same)
          rwa [ItX.dropH_upd hfr] at this, turn_str it z t (strIterType z) hty, st0, fun b hb => by
          have e : b = it := by simpa using hb
          subst e
          have := ItX.inv_fp I' (show (upd H1 b (SItO z b)) b = some _ from upd_same) (Nat.le_trans I1.sz hge)
          rwa [ItX.dropH_upd hfr] at this, q⟩
        show PySem.W.OwitIt _ _ _ _ (.ref it) s'
        unfold PySem.W.OwitIt
        have hT : s'.TypeIs (.ref it) (strIterType z) := ⟨_, ho, rfl⟩
        rcases hty with e | e
        · rw [e] at hT
          exact wpAny_specialOf (name := Str.ofString "__next__") hT PySem.F.slot_str_ascii_iterator_next.lookup hfin
        · rw [e] at hT
          exact wpAny_specialOf (name := Str.ofString "__next__") hT PySem.F.slot_str_iterator_next.lookup hfin
end Kh

set_option Elab.async false
set_option linter.all false
set_option maxRecDepth 100000
set_option maxHeartbeats 1000000
namespace Kh
open PySem PySem.Spec L2
/-! ### list(a text) -/
theorem vals_of : ∀ {vs : List V} {us : List Value}, vs.length = us.length → (∀ (i : Nat) v u, vs[i]? = some v → us[i]? = some u → RelV v u) → Vals vs us
  | [], [], _, _ => .nil
  | v :: vs, u :: us, hl, h => .cons (h 0 v u rfl rfl) (vals_of (by simpa using hl) fun i a b e1 e2 => h (i + 1) a b (by simpa using e1) (by simpa using e2))
  | [], _ :: _, hl, _ => by simp at hl
  | _ :: _, [], hl, _ => by simp at hl
theorem denL_chs {K : PySem.W.Frag} {G : Hp} : ∀ {l : List Nat}, DenL K G (l.map chD) (l.map fun c => V.str (chS c))
  | [] => .nil
  | c :: l => .cons den_str denL_chs
theorem c_listS {X : Cx} {M : Mem} {P : PK'} {z : Str} (hz : z.length ≤ sizeLine) (h : P (lstD chD (signsL z)) M) (hc : X.calm = true := by rfl) : BC X (.type "list") [.str z] M P := bc_w fun G H vs hH dv Q hP pins s σ us I r => by
  obtain ⟨v, rfl, d⟩ := one_inv dv
  have ed := d.str_inv
  subst ed
  cases r with
  | cons r1 rr =>
    cases rr
    obtain ⟨t, rfl⟩ := r1
    refine call_list_str (I.ok.hd hc) z t (fun h' tk acc c' hk hS' hacc => ?_) hz
    have hf : H s.heap.objs.size = none := I.hok.fresh (Nat.le_refl _)
    obtain ⟨s2, h2⟩ := Stp.new (o := .lst ((signsL z).map fun c => V.str (chS c))) hH hf
    refine ⟨.ref s.heap.objs.size, upd H s.heap.objs.size (.lst ((signsL z).map fun c => V.str (chS c))), I.laid (t' := tk) (fun b u e => hk b u e) (Nat.le_refl _) ⟨by rw [List.length_map]; exact hz, acc.toList, c', ?_, by rw [Array.toArray_toList]; exact hS'⟩, rfl, hP _ _ _ _ _ h s2 h2 (den_lst upd_same denL_chs)⟩
    refine vals_of ?_ ?_
    · have := hacc.1
      simp [signsL, this]
    · intro i v u e1 e2
      rw [List.getElem?_map] at e1
      cases q : (signsL z)[i]? with
      | none => rw [q] at e1; cases e1
      | some c =>
        rw [q] at e1
        cases e1
        obtain ⟨c2, t2, g1, g2⟩ := hacc.2 i u (by rw [← Array.getElem?_toList]; exact e2)
        rw [← Array.getElem?_toList] at g1
        rw [show z.cps.toList = signsL z from rfl, q] at g1
        cases g1
        exact ⟨t2, g2⟩
/-- a list from a text's signs: of what is wanted -/
def plistS (z : Str) : Res (List Nat) := guard (z.length ≤ sizeLine) (signsL z)
theorem r_listS {X : Cx} {M : Mem} {P : PK'} {z : Str} {Q : List Nat → Prop} {E1 : Er → Prop} (h : (plistS z).Out Q E1) (hk : ∀ l, Q l → P (lstD chD l) M) (hc : X.calm = true := by rfl) : BC X (.type "list") [.str z] M P := c_listS (gd h).1 (hk _ (gd h).2) hc
end Kh

set_option Elab.async false
set_option linter.all false
set_option maxRecDepth 100000
set_option maxHeartbeats 4000000
namespace Kh
open PySem PySem.Spec L2
open PySem.W PySem.Calls PyProof.Rows PySem.HandSPX

/-! ### several except clauses, each 'except C as n' -/
/-- what the clauses wish of an exception of the body, one after the other -/
def wAsN (K : PySem.W.Frag) (Wout : WX) (D : Ends) : List (Value × Nat × (Addr → Value → Option Addr → TS)) → WX
  | [] => Wout
  | (c, i, ts) :: r => fun cls d σ H => ∃ b, PySem.W.exmOne K cls c = some b ∧
      (b = true → ∀ a, H a = none → ts a cls d { nx := fun σ' H' => D.nx (σ'.set i none) H', rt := D.rt, bk := fun σ' H' => D.bk (σ'.set i none) H', ct := fun σ' H' => D.ct (σ'.set i none) H' } (σ.set i (some (.ref a))) H) ∧
      (b = false → wAsN K Wout D r cls d σ H)
/-- a clause: class's name, class, name told, suite -/
structure Cl where
  x : Str
  np : Pos
  c : Value
  n : Str
  b₀ : Stmt
  suite : List Stmt
  pos : Pos
def Cl.hd (l : Cl) : ExceptHandler := .ExceptHandler (some (.Name l.x l.np)) (some l.n) (l.b₀ :: l.suite) l.pos
inductive HdsN (X : Cx) : List Cl → List (Value × Nat × (Addr → Value → Option Addr → TS)) → Prop
  | nil : HdsN X [] []
  | cons {l : Cl} {i : Nat} {ts : Addr → Value → Option Addr → TS} {ls : List Cl} {r : List (Value × Nat × (Addr → Value → Option Addr → TS))} (hc : Names X l.x l.c) (hi : X.N[i]? = some l.n) (hln : X.env.kindOf l.n = some .local)
      (hsu : ∀ (a : Addr) (oe : Obj) (cls : Value) (d : Option Addr) (pn : List (Addr × Obj)), Zc cls d oe → (∃ vs, oe.data = .fields vs) → PSs (X.suite a ((a, oe) :: pn)) (l.b₀ :: l.suite) (ts a cls d)) (hr : HdsN X ls r) :
      HdsN X (l :: ls) ((l.c, i, ts) :: r)
section
variable {X : Cx} {body : List Stmt} {l₀ : Cl} {ls : List Cl} {r : List (Value × Nat × (Addr → Value → Option Addr → TS))} {pos : Pos} {tb : WX → TS} {Wout : WX}
theorem ps_try_asN (hs : X.stack = X.env :: X.outer) (hf : X.env.frame = some X.env.locals) (hN : X.N.Nodup) (tk : Takes X Wout)
    (hb : ∀ (W : WX) (pn : List (Addr × Obj)) (xe : Value → Shared → Prop), Takes (X.tr pn xe) W → PassesOwn (model X.prog X.w) X.A X.env xe → PSs (X.tr pn xe) body (tb W))
    (hh : HdsN X (l₀ :: ls) r) : PS X (.Try body (l₀.hd :: ls.map Cl.hd) [] [] pos) (fun D σ H => tb (wAsN X.K Wout D r) D σ H) := by
  refine ⟨fun pins s σ H D I h => ?_⟩
  have ok := I.ok
  have hfr : X.A.frames = some (X.env :: X.outer) := by rw [ok.frames, hs]
  refine wpAny_Try_except ?_
  refine wpAny_mono ((hb (wAsN X.K Wout D r) (X.pn ++ pins) (fun e s₁ => wpAny (model X.prog X.w) X.A (noteFrame e X.env) (fun _ s₂ => wpAny (model X.prog X.w) X.A (setFlight e none) (fun _ s₃ =>
    wpAny (model X.prog X.w) X.A (handleBy e X.env (l₀.hd :: ls.map Cl.hd)) (SP X pins D) X.xe s₃) X.xe s₂) X.xe s₁) (fun u s' xx => ?_) PassesOwn.looking).run [] s σ H D (I.toTry _) h) (fun f s1 hsp => ?_) (fun e s1 he => he)
  · -- the catch
    obtain ⟨a, B, sI, pins', σ', H', cls, d, rfl, J', nb, up, sky, na, os, ag, w⟩ := xx
    have J : Inv X pins σ' H' sI := J'.ofTry ok
    have sky' : Sky B (X.env :: X.outer) a (Zc cls d) X.env.locals s'.heap := by rw [← hs]; exact sky
    show wpAny (model X.prog X.w) X.A (noteFrame (.ref a) X.env) _ _ _
    refine Sky.land Zc.steady hfr hf sky' fun h3 fl3 up3 => ?_
    have J3 : Inv X pins σ' H' { s' with heap := h3 } := J.landed nb fl3.1 (up.trans up3) os ag
    obtain ⟨oe3, vs3, he3, hz3, hd3⟩ := fl3.there
    have notFr : ∀ {h : Heap} {o : Obj} {vs : Array Value}, h.FunFrames B (X.env :: X.outer) → h.get? a = some o → o.data = .fields vs → a ∉ frs (X.env :: X.outer) := fun {h o vs} ff e dd hm => by
      obtain ⟨_, o', e', hnf⟩ := ff.mem hm
      rw [e] at e'; cases e'
      exact hnf _ dd
    have nfr := notFr fl3.2.2.1 he3 hd3
    have nL : a ≠ X.env.locals := fun z => nfr (List.mem_filterMap.mpr ⟨X.env, List.mem_cons_self, by rw [hf, z]⟩)
    have nF : a ∉ X.fs := fun hm => by
      obtain ⟨e, he, q⟩ := List.mem_filterMap.mp hm
      exact nfr (List.mem_filterMap.mpr ⟨e, List.mem_cons_of_mem _ he, q⟩)
    have S3 := J3.suite he3 hd3 na nL nF
    have go : ∀ {ls' : List Cl} {l' : List (Value × Nat × (Addr → Value → Option Addr → TS))}, HdsN X ls' l' → wAsN X.K Wout D l' cls d σ' H' →
        wpAny (model X.prog X.w) X.A (handleBy (.ref a) X.env (ls'.map Cl.hd)) (SP X pins D) X.xe { s' with heap := h3 } := by
      intro ls' l' hk
      induction hk with
      | nil =>
        intro w
        refine wpAny_handleBy_nil ?_
        obtain ⟨k1, k2, k3, oe, vs, T, oT, ts', he, hz, hd, h1, hr⟩ := id fl3
        unfold PySem.passOn
        refine wpAny_bind (wpAny_field he hd h1 ?_)
        rw [if_neg (show ¬ ((Value.ref T == Value.none) = true) from by simp)]
        have fin : wpAny (model X.prog X.w) X.A (setFlight (.ref a) X.env.frame) (fun _ s4 => wpAny (model X.prog X.w) X.A (throw (.ref a) : Sem Flow) (SP X pins D) X.xe s4) X.xe { s' with heap := h3 } := by
          rw [hf]
          refine HandSPX.setFlight_upZ fl3 fun h4 hh4 up4 => wpAny_throw (tk _ _ ?_)
          exact ⟨a, B, sI, pins, σ', H', cls, d, rfl, J, nb, (up.trans up3).trans up4, .inr (.inr (by rw [hs]; exact hh4)), na, os, ag, w⟩
        first
          | exact wpAny_bind (wpAny_pure (wpAny_bind fin))
          | exact wpAny_bind fin
      | @cons l i ts ls2 r2 hc hi hln hsu hr ih =>
        intro w
        obtain ⟨b, hb1, hyes, hno⟩ := w
        show wpAny (model X.prog X.w) X.A (handleBy (.ref a) X.env (.ExceptHandler (some (.Name l.x l.np)) (some l.n) (l.b₀ :: l.suite) l.pos :: ls2.map Cl.hd)) _ _ _
        refine wpAny_handleBy_cons (codeAny_handlers_test ?_) (by intro q; cases q)
        have LT : PySem.W.Looks (model X.prog X.w) h3 (typeOf (.ref a)) cls := fun A Q E s k q => wpAny_typeOf_ref (k _ _ he3) (by rw [hz3.1]; exact q)
        have LM := PySem.W.exm_one (M := model X.prog X.w) (J3.kIn) LT hb1
        have test : ∀ {Q : Value → Shared → Prop} {E : Value → Shared → Prop}, Q l.c { s' with heap := h3 } → wpAny (model X.prog X.w) (X.A.mark (some (.ref a))) (eval (.Name l.x l.np) X.env) Q E { s' with heap := h3 } := fun {Q E} q => by
          obtain ⟨hg, hdbg, hm | ⟨hm, hv, hnn⟩⟩ := hc
          · exact ld_glob (X := X.suite a ((a, oe3) :: (X.pn ++ pins))) S3 hg hm q hdbg
          · exact ld_blt (X := X.suite a ((a, oe3) :: (X.pn ++ pins))) S3 hg hm hv q hnn hdbg
        refine test (LM.here ?_)
        have hloc : Loc X.env.scope l.n := .inl hln
        cases b with
        | true =>
          refine codeAny_handlers_suite_as ?_
          refine HandSPX.lands_againZ fl3 fun h4 fl4 up4 => ?_
          have J4 : Inv X pins σ' H' { s' with heap := h4 } := J.landed nb fl4.1 ((up.trans up3).trans up4) os ag
          obtain ⟨oe4, vs4, he4, hz4, hd4⟩ := fl4.there
          have S4 := J4.suite he4 hd4 na nL nF
          refine store_ok (X := X.suite a ((a, oe4) :: (X.pn ++ pins))) (v := .ref a) S4 hN hi hloc rfl (fun s5 S5 => ?_) (.inr hln)
          refine wpAny_mono ((hsu a oe4 cls d (X.pn ++ pins) hz4 ⟨_, hd4⟩).run [] s5 _ H' _ S5 (hyes rfl a na)) (fun f s6 hsp => ?_) (fun _ _ z => False.elim z)
          have end_ : ∀ {σ6 : L2.St} {H6 : Hp} {Q : Shared → Prop}, Inv (X.suite a ((a, oe4) :: (X.pn ++ pins))) [] σ6 H6 s6 → (∀ s7, Inv X pins (σ6.set i none) H6 s7 → Q s7) →
              wpAny (model X.prog X.w) X.A (do bindName X.env l.n .none; unbindBehindTheSuite X.env l.n l.pos) (fun _ s7 => Q s7) X.xe s6 := fun {σ6 H6 Q} S6 hq => gone_ok (S6.unsuite ok) hN hi hln hq
          cases f with
          | next =>
            obtain ⟨σ6, H6, S6, q6⟩ := hsp
            exact end_ S6 fun s7 J7 => ⟨_, _, J7, q6⟩
          | brk =>
            obtain ⟨σ6, H6, S6, q6⟩ := hsp
            exact end_ S6 fun s7 J7 => ⟨_, _, J7, q6⟩
          | cont =>
            obtain ⟨σ6, H6, S6, q6⟩ := hsp
            exact end_ S6 fun s7 J7 => ⟨_, _, J7, q6⟩
          | ret u =>
            obtain ⟨v6, σ6, H6, S6, r6, q6⟩ := hsp
            exact end_ S6 fun s7 J7 => ⟨_, _, _, J7, r6, q6⟩
        | false =>
          show wpAny _ X.A (handleBy (.ref a) X.env (ls2.map Cl.hd)) _ _ _
          exact ih (hno rfl)
    exact go hh w
  · cases f with
    | next =>
      obtain ⟨σ', H', J', q⟩ := hsp
      exact wpAny_execs_nil ⟨σ', H', J'.ofTry ok, q⟩
    | brk =>
      obtain ⟨σ', H', J', q⟩ := hsp
      exact ⟨σ', H', J'.ofTry ok, q⟩
    | cont =>
      obtain ⟨σ', H', J', q⟩ := hsp
      exact ⟨σ', H', J'.ofTry ok, q⟩
    | ret u =>
      obtain ⟨v, σ', H', J', r, q⟩ := hsp
      exact ⟨v, σ', H', J'.ofTry ok, r, q⟩
end

/-! ### over the judgement of statements -/
/-- the clauses, one after the other, at an exception x of the body -/
def catN (X : Cx) (k : TEnv → Mem → Prop) (R : RK) (x : Exn) (τ : TEnv) (M : Mem) : List Cl → Prop
  | [] => R (.ex x τ) M
  | l :: ls => ∃ b, PySem.W.exmOne X.K (.ref x.C) l.c = some b ∧
      (b = true → x.ns ≠ [] ∧ ∀ a dd oe pn, Zc (.ref x.C) (some dd) oe → (∃ vs, oe.data = .fields vs) → WS (X.suite a ((a, oe) :: pn)) false (l.b₀ :: l.suite) (τ.set (ixIn X.N l.n) (some (.xn a dd x.ns x.ds))) M (suiteR (ixIn X.N l.n) k R)) ∧
      (b = false → catN X k R x τ M ls)
def tryRN (X : Cx) (ls : List Cl) (k : TEnv → Mem → Prop) (R : RK) : RK
  | .nx τ, M => k τ M
  | .ex x τ, M => catN X k R x τ M ls
  | o, M => R o M
/-- what is to be known of the clauses' names -/
inductive ClOk (X : Cx) : List Cl → Prop
  | nil : ClOk X []
  | cons {l : Cl} {ls : List Cl} (hc : Names X l.x l.c) (hi : X.N[ixIn X.N l.n]? = some l.n) (hln : X.env.kindOf l.n = some .local) (hr : ClOk X ls) : ClOk X (l :: ls)
/-- what the suites take -/
def tsN (X : Cx) (l : Cl) : Value × Nat × (Addr → Value → Option Addr → TS) :=
  (l.c, ixIn X.N l.n, fun a cls d D σ H => ∀ oe pn, Zc cls d oe → (∃ vs, oe.data = .fields vs) → tWSs (X.suite a ((a, oe) :: pn)) false (l.b₀ :: l.suite) D σ H)
theorem hdsN {X : Cx} : ∀ {ls : List Cl}, ClOk X ls → HdsN X ls (ls.map (tsN X))
  | _, .nil => .nil
  | _, .cons hc hi hln hr => .cons hc hi hln (fun a oe cls d pn hz hv => ⟨fun pins s σ H D I h => h oe pn hz hv pins s tk_f I⟩) (hdsN hr)
section
variable {X : Cx} {T : Bool} {τ : TEnv} {M : Mem} {R : RK} {rest body : List Stmt} {pos : Pos} {l₀ : Cl} {ls : List Cl}
theorem catN_run {W : WX} {D : Ends} {nx : L2.St → Hp → Prop} {G2 H2 : Hp} {k : TEnv → Mem → Prop} {y : Exn} {τ' : TEnv} {M2 : Mem} (tk : Takes X W) (h2 : Hst X.K G2 M2 H2)
    (hk : ∀ τ3 M3 G3 H3 σ3, k τ3 M3 → Stp G2 M2 H2 G3 M3 H3 → Hst X.K G3 M3 H3 → DenE X.K τ3 G3 σ3 → nx σ3 H3) (hR : CS' X.K G2 M2 H2 R D W)
    {σ' : L2.St} {d : Option Addr} (hE' : DenE X.K τ' G2 σ') (dx : DenX X.K G2 H2 y d) :
    ∀ {ls : List Cl}, ClOk X ls → catN X k R y τ' M2 ls → wAsN X.K W { D with nx := nx } (ls.map (tsN X)) (.ref y.C) d σ' H2
  | [], _, r => hR _ _ _ _ r Stp.refl h2 σ' d hE' dx
  | l :: ls, .cons hc hi hln hr, r => by
    obtain ⟨b, hb, h1, h0⟩ := r
    refine ⟨b, hb, fun e => ?_, fun e => catN_run tk h2 hk hR hE' dx hr (h0 e)⟩
    obtain ⟨hns, h1⟩ := h1 e
    intro a ha oe pn hz hv
    rcases dx with ⟨z, _⟩ | ⟨dd, vs, rfl, hg, dv⟩
    · exact absurd z hns
    · refine fun pins s kt I => ?_
      have hl2 := I.len
      have hlt2 : ixIn X.N l.n < σ'.length := by
        have : (σ'.set (ixIn X.N l.n) (some (.ref a))).length = X.N.length := hl2
        rw [List.length_set] at this
        rw [this]; exact (List.getElem?_eq_some_iff.mp hi).1
      refine (h1 a dd oe pn hz hv).run _ takes0 (σ'.set (ixIn X.N l.n) (some (.ref a))) G2 H2 (hE'.set hlt2 (by simp only [Den, true_and]; exact ⟨vs, hg, dv⟩)) h2 _ ?_ pins s kt I
      intro o M3 G3 H3 r3 s3 h3
      cases o with
      | nx τ3 => exact fun σ3 e3 => hk _ _ _ _ _ r3 s3 h3 e3.unset
      | rt d => exact fun v dv => hR _ _ _ _ r3 s3 h3 v dv
      | bk τ3 => exact fun σ3 e3 => hR _ _ _ _ r3 s3 h3 _ e3.unset
      | ct τ3 => exact fun σ3 e3 => hR _ _ _ _ r3 s3 h3 _ e3.unset
      | ex z τ3 => exact r3.elim
/-- try: body, except C as n: suite, except .. -/
theorem ws_tryN (hs : X.stack = X.env :: X.outer) (hf : X.env.frame = some X.env.locals) (hc : ClOk X (l₀ :: ls))
    (h : ∀ pn xe, PassesOwn (model X.prog X.w) X.A X.env xe → WS (X.tr pn xe) false body τ M (tryRN X (l₀ :: ls) (fun τ' M' => WS X T rest τ' M' R) R))
    (hN : X.N.Nodup := by first | decide +kernel | exact of_decide_eq_true (by kernel_rfl)) :
    WS X T (.Try body (l₀.hd :: ls.map Cl.hd) [] [] pos :: rest) τ M R := .mk fun W tk σ G H hE hH D hR => by
  refine ws_step (ps_try_asN (r := (l₀ :: ls).map (tsN X)) (tb := fun W D σ H => ∀ pn xe, Takes (X.tr pn xe) W → PassesOwn (model X.prog X.w) X.A X.env xe → tWSs (X.tr pn xe) false body D σ H) hs hf hN tk
    (fun W pn xe tk po => ⟨fun pins s σ H D I h => h pn xe tk po pins s tk_f I⟩) (hdsN hc)) ?_
  intro pn xe tk2 po
  refine (h pn xe po).run _ tk2 σ G H hE hH _ ?_
  intro o M2 G2 H2 r s2 h2
  cases o with
  | nx τ' => exact fun σ' hE' => r.run W tk σ' G2 H2 hE' h2 D (hR.step s2)
  | rt d => exact hR _ _ _ _ r s2 h2
  | bk τ' => exact hR _ _ _ _ r s2 h2
  | ct τ' => exact hR _ _ _ _ r s2 h2
  | ex y τ' =>
    intro σ' d hE' dx
    exact catN_run tk h2 (fun τ3 M3 G3 H3 σ3 q s3 h3 e3 => q.run W tk σ3 G3 H3 e3 h3 D ((hR.step s2).step s3)) (hR.step s2) hE' dx hc r
end
end Kh

set_option Elab.async false
set_option linter.all false
set_option maxRecDepth 100000
set_option maxHeartbeats 1000000
namespace Kh
open PySem PySem.Spec L2
/-! ### an error caught -/
namespace Res
def grab {α : Type} : Res α → (Er → Res α) → Res α
  | .ok a, _ => .ok a
  | .err x, k => k x
  | .bad, _ => .bad
  | .all f, k => .all fun q => (f q).grab k
end Res
section
variable {α : Type}
@[simp] theorem grab_ok {a : α} {k : Er → Res α} : (Res.ok a).grab k = .ok a := rfl
@[simp] theorem grab_err {x : Er} {k : Er → Res α} : (Res.err x).grab k = k x := rfl
theorem grab_out {k : Er → Res α} {P : α → Prop} {E : Er → Prop} : ∀ {m : Res α}, (m.grab k).Out P E → m.Out P (fun x => (k x).Out P E)
  | .ok _, h => h
  | .err _, h => h
  | .bad, h => h
  | .all f, h => fun q => grab_out (m := f q) (h q)
end
/-! ### values of any kind compared -/
mutual
def eqA : Any → Any → Bool
  | .non, .non => true
  | .bl a, .bl b => decide (a = b)
  | .int i, .int j => decide (i = j)
  | .str s, .str t => decide (s = t)
  | .lst xs, .lst ys => eqAL xs ys
  | .tup xs, .tup ys => eqAL xs ys
  | .tag a _, .tag b _ => decide (a = b)
  | .cel a, .cel b => decide (a = b)
  | _, _ => false
def eqAL : List Any → List Any → Bool
  | [], [] => true
  | x :: xs, y :: ys => eqA x y && eqAL xs ys
  | _, _ => false
end
mutual
def dpA : Any → Nat
  | .lst xs => dpAL xs + 1
  | .tup xs => dpAL xs + 1
  | _ => 1
def dpAL : List Any → Nat
  | [] => 0
  | x :: xs => max (dpA x) (dpAL xs)
end
section
variable {cl : OK → Addr × List Str}
mutual
theorem eqA_D : ∀ {x y : Any}, eqA x y = true → eqT (anyD cl x) (anyD cl y) = true
  | .non, y, h => by cases y <;> simp [eqA] at h; simp [anyD, eqT]
  | .bl a, y, h => by cases y <;> simp [eqA] at h; simp [anyD, eqT, h]
  | .int a, y, h => by cases y <;> simp [eqA] at h; simp [anyD, eqT, h]
  | .str a, y, h => by cases y <;> simp [eqA] at h; simp [anyD, eqT, h]
  | .lst xs, y, h => by
    cases y <;> simp [eqA] at h
    simp only [anyD, eqT]; exact eqAL_D h
  | .tup xs, y, h => by
    cases y <;> simp [eqA] at h
    simp only [anyD, eqT]; exact eqAL_D h
  | .tag a _, y, h => by cases y <;> simp [eqA] at h; simp [anyD, eqT, h]
  | .cel a, y, h => by cases y <;> simp [eqA] at h; simp [anyD, eqT, h]
  | .dic, y, h => by cases y <;> simp [eqA] at h
  | .obj _ _, y, h => by cases y <;> simp [eqA] at h
theorem eqAL_D : ∀ {xs ys : List Any}, eqAL xs ys = true → eqTL (anyDL cl xs) (anyDL cl ys) = true
  | [], [], _ => by simp [anyDL, eqTL]
  | x :: xs, y :: ys, h => by
    simp only [eqAL, Bool.and_eq_true] at h
    simp only [anyDL, eqTL, Bool.and_eq_true]
    exact ⟨eqA_D h.1, eqAL_D h.2⟩
  | [], _ :: _, h => by simp [eqAL] at h
  | _ :: _, [], h => by simp [eqAL] at h
end
mutual
theorem dpA_D : ∀ {x : Any}, dpD (anyD cl x) = dpA x
  | .non => by simp [anyD, dpD, dpA]
  | .bl _ => by simp [anyD, dpD, dpA]
  | .int _ => by simp [anyD, dpD, dpA]
  | .str _ => by simp [anyD, dpD, dpA]
  | .lst xs => by simp only [anyD, dpD, dpA]; rw [dpAL_D]
  | .tup xs => by simp only [anyD, dpD, dpA]; rw [dpAL_D]
  | .dic => by simp [anyD, dpD, dpA]
  | .obj _ _ => by simp [anyD, dpD, dpA]
  | .tag _ _ => by simp [anyD, dpD, dpA]
  | .cel _ => by simp [anyD, dpD, dpA]
theorem dpAL_D : ∀ {xs : List Any}, dpDL (anyDL cl xs) = dpAL xs
  | [] => by simp [anyDL, dpDL, dpAL]
  | x :: xs => by simp only [anyDL, dpDL, dpAL]; rw [dpA_D, dpAL_D]
end
end
/-- two lists of values of any kind compared, where they are equal by shape or place -/
def peqA (xs ys : List Any) : Res Bool := guard (eqAL xs ys = true ∧ dpAL xs ≤ 60) true
section
variable {X : Cx} {T : Bool} {M : Mem} {P : PK'} {E1 : Er → Prop} {cl : OK → Addr × List Str} {Q : Bool → Prop} {xs ys : List Any}
theorem r_eqAL (hu : X.A.units + 64 < cLine) (h : (peqA xs ys).Out Q E1) (hk : ∀ b, Q b → P (.bl b) M) : OP X T (compareOp .Eq) (.lst (xs.map (anyD cl))) (.lst (ys.map (anyD cl))) M P := by
  rw [← anyDL_map, ← anyDL_map]
  exact o_eqLT (eqAL_D (gd h).1.1) (by rw [dpAL_D]; exact (gd h).1.2) hu (hk _ (gd h).2)
theorem r_neAL (hu : X.A.units + 64 < cLine) (h : ((peqA xs ys).bind fun b => .ok !b).Out Q E1) (hk : ∀ b, Q b → P (.bl b) M) : OP X T (compareOp .NotEq) (.lst (xs.map (anyD cl))) (.lst (ys.map (anyD cl))) M P := by
  rw [← anyDL_map, ← anyDL_map]
  have g := gd (ob h)
  exact o_neLT (eqAL_D g.1.1) (by rw [dpAL_D]; exact g.1.2) hu (hk _ g.2)
end
/-! ### what a value of any kind is -/
def AsI : Any → Res Int
  | .int i => .ok i
  | _ => .bad
def AsL : Any → Res (List Any)
  | .lst xs => .ok xs
  | _ => .bad
def AsS : Any → Res Str
  | .str s => .ok s
  | _ => .bad
section
variable {cl : OK → Addr × List Str} {E1 : Er → Prop}
theorem asI_out {a : Any} {Q : Int → Prop} (h : (AsI a).Out Q E1) : ∃ i, a = .int i ∧ Q i := by
  cases a <;> first | exact ⟨_, rfl, h⟩ | exact h.elim
theorem asL_out {a : Any} {Q : List Any → Prop} (h : (AsL a).Out Q E1) : ∃ i, a = .lst i ∧ Q i := by
  cases a <;> first | exact ⟨_, rfl, h⟩ | exact h.elim
theorem asS_out {a : Any} {Q : Str → Prop} (h : (AsS a).Out Q E1) : ∃ i, a = .str i ∧ Q i := by
  cases a <;> first | exact ⟨_, rfl, h⟩ | exact h.elim
end
/-- a base type's name -/
def tyA : Any → Option String
  | .non => some "NoneType"
  | .bl _ => some "bool"
  | .int _ => some "int"
  | .str _ => some "str"
  | .lst _ => some "list"
  | .tup _ => some "tuple"
  | .dic => some "dict"
  | .obj _ _ => none
  | .tag _ x => tyA x
  | .cel _ => none
/-- the own class -/
def okA : Any → Option OK
  | .obj k _ => some k
  | .tag _ x => okA x
  | _ => none
theorem tyA_D {K : PySem.W.Frag} {M : Mem} {cl : OK → Addr × List Str} : ∀ {a : Any} {t : String}, tyA a = some t → TyD K M (anyD cl a) (.type t)
  | .non, _, h => by cases h; simp only [anyD]; exact .non
  | .bl _, _, h => by cases h; simp only [anyD]; exact .bl
  | .int _, _, h => by cases h; simp only [anyD]; exact .int
  | .str _, _, h => by cases h; simp only [anyD]; exact .str
  | .lst _, _, h => by cases h; simp only [anyD]; exact .lst
  | .tup _, _, h => by cases h; simp only [anyD]; exact .tup
  | .dic, _, h => by cases h; simp only [anyD]; exact .dic0
  | .obj _ _, _, h => by cases h
  | .cel _, _, h => by cases h
  | .tag _ x, _, h => by simp only [anyD]; exact .at (tyA_D (a := x) h)
theorem okA_D' {K : PySem.W.Frag} {M : Mem} {cl : OK → Addr × List Str} : ∀ {a : Any} {k : OK}, ICls K (cl k).1 → okA a = some k → TyD K M (anyD cl a) (.ref (cl k).1)
  | .obj _ _, _, hc, h => by cases h; simp only [anyD]; exact .obj hc
  | .tag _ x, _, hc, h => by simp only [anyD]; exact .at (okA_D' (a := x) hc h)
  | .non, _, _, h => by cases h
  | .bl _, _, _, h => by cases h
  | .int _, _, _, h => by cases h
  | .str _, _, _, h => by cases h
  | .lst _, _, _, h => by cases h
  | .tup _, _, _, h => by cases h
  | .dic, _, _, h => by cases h
  | .cel _, _, _, h => by cases h
theorem tyA_mem : ∀ {a : Any} {u : String}, tyA a = some u → u ∈ ["NoneType", "bool", "int", "str", "list", "tuple", "dict"]
  | .non, _, h => by cases h; simp
  | .bl _, _, h => by cases h; simp
  | .int _, _, h => by cases h; simp
  | .str _, _, h => by cases h; simp
  | .lst _, _, h => by cases h; simp
  | .tup _, _, h => by cases h; simp
  | .dic, _, h => by cases h; simp
  | .obj _ _, _, h => by cases h
  | .cel _, _, h => by cases h
  | .tag _ x, _, h => tyA_mem (a := x) h
/-- isinstance(a, t) for a base type t; pr: the own classes that are there -/
def pisA (pr : OK → Bool) (t : String) (a : Any) : Res Bool := match tyA a with
  | some u => .ok (u == t || (u == "bool" && t == "int"))
  | none => match okA a with
    | some k => guard (pr k = true) false
    | none => .bad
theorem kitA {K : PySem.W.Frag} {t : String} (ht : t ∈ ["bool", "int", "str", "list", "tuple", "dict"]) {u : String} (h : u ∈ ["NoneType", "bool", "int", "str", "list", "tuple", "dict"]) :
    PySem.W.kitOne K (.type u) (.type t) = some (u == t || (u == "bool" && t == "int")) := by
  simp only [List.mem_cons, List.not_mem_nil, or_false] at h ht
  rcases h with rfl | rfl | rfl | rfl | rfl | rfl | rfl <;> rcases ht with rfl | rfl | rfl | rfl | rfl | rfl <;> rfl
section
variable {X : Cx} {M : Mem} {P : PK'} {E1 : Er → Prop} {cl : OK → Addr × List Str} {Q : Bool → Prop} {pr : OK → Bool} {a : Any}
theorem r_isA {t : String} {cv : V} (hc : ClsV cv (.type t)) (hi : ∀ k, pr k = true → ICls X.K (cl k).1) (hs : ∀ k, pr k = true → PySem.W.subIn X.K (.ref (cl k).1) (.type t) = some false) (h : (pisA pr t a).Out Q E1) (hk : ∀ b, Q b → P (.bl b) M)
    (ht : t ∈ ["bool", "int", "str", "list", "tuple", "dict"] := by decide) : BC X (.builtin "isinstance") [anyD cl a, .raw cv] M P := by
  unfold pisA at h
  cases e : tyA a with
  | some u => rw [e] at h; exact c_isi hc (tyA_D e) (kitA ht (tyA_mem e)) (hk _ h)
  | none =>
    rw [e] at h
    cases e2 : okA a with
    | none => rw [e2] at h; exact h.elim
    | some k =>
      rw [e2] at h
      have g := gd h
      have ty : TyD X.K M (anyD cl a) (.ref (cl k).1) := okA_D' (hi k g.1) e2
      exact c_isi hc ty (kit_ty (hs k g.1) (by simp only [List.mem_cons, List.not_mem_nil, or_false] at ht; rcases ht with rfl | rfl | rfl | rfl | rfl | rfl <;> rfl)) (hk _ g.2)
end
section
variable {X : Cx} {T : Bool} {τ : TEnv} {M : Mem} {P : PK'} {E : XKx} {e : Expr} {E1 : Er → Prop} {cl : OK → Addr × List Str} {a : Any} {pos : Pos} {α : Type}
/-- a value seen as one of any kind -/
theorem ex_asA (h : EX X T e τ M (fun d M1 => ∃ d', d = d' ∧ P d' M1) E) : EX X T e τ M P E := h.imp (fun d M1 ⟨_, e, h⟩ => e ▸ h) fun _ _ h => h
/-- a value of any kind that must be a number -/
theorem ex_asI {Q : Int → Prop} (h : (AsI a).Out Q E1) (hk : EX X T e τ M (fun d M1 => d = anyD cl a ∧ ∀ i, Q i → P (.int i) M1) E) : EX X T e τ M P E :=
  hk.imp (fun d M1 ⟨e, hp⟩ => by obtain ⟨i, rfl, q⟩ := asI_out h; rw [e]; exact hp i q) fun _ _ h => h
theorem ex_asL {Q : List Any → Prop} (h : (AsL a).Out Q E1) (hk : EX X T e τ M (fun d M1 => d = anyD cl a ∧ ∀ i, Q i → P (lstD (anyD cl) i) M1) E) : EX X T e τ M P E :=
  hk.imp (fun d M1 ⟨e, hp⟩ => by
    obtain ⟨i, rfl, q⟩ := asL_out h; rw [e]
    have := hp i q
    simp only [anyD, anyDL_map]; exact this) fun _ _ h => h
theorem ex_asS {Q : Str → Prop} (h : (AsS a).Out Q E1) (hk : EX X T e τ M (fun d M1 => d = anyD cl a ∧ ∀ i, Q i → P (.str i) M1) E) : EX X T e τ M P E :=
  hk.imp (fun d M1 ⟨e, hp⟩ => by obtain ⟨i, rfl, q⟩ := asS_out h; rw [e]; exact hp i q) fun _ _ h => h
/-- {} -/
theorem ex_dicA {f : Addr → Res α} {Q : α → Prop} (h : (Res.all f).Out Q E1) (hk : ∀ q, (f q).Out Q E1 → P (.at q .dic0) M) : EX X T (.Dict [] [] pos) τ M P E := ex_dict0 fun q => hk q (h q)
/-- a made value, told by its place -/
theorem outAll {f : Addr → Res α} {Q : α → Prop} (h : (Res.all f).Out Q E1) : ∀ q, (f q).Out Q E1 := h
theorem ex_tagA (hk : EX X T e τ M (fun d M1 => isR d = true ∧ ∃ d', d = d' ∧ ∃ S : Addr → Prop, (∀ q, S q) ∧ ∀ q, S q → P (.at q d') M1) E) : EX X T e τ M P E :=
  ex_tag (hk.imp (fun d M1 ⟨hr, d', e, S, h, hp⟩ => ⟨hr, fun q => by subst e; exact hp q (h q)⟩) fun _ _ h => h)
end
/-! ### try, as it goes on in one way -/
theorem catN_mono {X : Cx} {k k' : TEnv → Mem → Prop} {R : RK} {x : Exn} {τ : TEnv} {M : Mem} (hk : ∀ τ M, k τ M → k' τ M) : ∀ {ls : List Cl}, catN X k R x τ M ls → catN X k' R x τ M ls
  | [], h => h
  | l :: ls, ⟨b, hb, h1, h0⟩ => ⟨b, hb, fun e => ⟨(h1 e).1, fun a dd oe pn hz hv => ((h1 e).2 a dd oe pn hz hv).imp fun o M2 q => by
      cases o with
      | nx τ => exact hk _ _ q
      | ct τ => exact q
      | bk τ => exact q
      | rt d => exact q
      | ex _ _ => exact q⟩, fun e => catN_mono hk (h0 e)⟩
section
variable {X : Cx} {T : Bool} {τ : TEnv} {M : Mem} {R : RK} {rest body : List Stmt} {pos : Pos} {l₀ : Cl} {ls : List Cl} {α : Type} {E1 : Er → Prop}
/-- how a try's body may end: in J, or by an error of the slots and cells it began with -/
def tryB (ex : Er → Exn) (τ : TEnv) (M : Mem) (J : TEnv → Mem → Prop) (E : Er → Prop) : RK
  | .nx τ', M' => J τ' M'
  | .ex y τ', M' => ∃ x, y = ex x ∧ τ' = τ ∧ M' = M ∧ E x
  | _, _ => False
/-- the same, where what was made on the way is left behind -/
def tryD (ex : Er → Exn) (τ : TEnv) (M : Mem) (J : TEnv → Mem → Prop) (E : Er → Prop) : RK
  | .nx τ', M' => J τ' M'
  | .ex y τ', M' => ∃ A B, M'.Perm (A ++ B) ∧ ∃ x, y = ex x ∧ τ' = τ ∧ A = M ∧ E x
  | _, _ => False
theorem csT {K : PySem.W.Frag} {G H : Hp} {M M0 : Mem} {ex : Er → Exn} {J : TEnv → Mem → Prop} {E : Er → Prop} {D : Ends} {W : WX} (h : CS' K G M H (tryB ex τ M0 J E) D W) : CS' K G M H (tryD ex τ M0 J E) D W := fun o M2 G2 H2 r s h2 => by
  cases o with
  | nx τ => exact h (.nx τ) M2 G2 H2 r s h2
  | rt d => exact r.elim
  | ex x τ => obtain ⟨A, B, pm, r⟩ := r; exact h (.ex x τ) A G2 H2 r (s.perm (List.Perm.refl _) pm).drop (h2.perm pm).drop
  | bk τ => exact r.elim
  | ct τ => exact r.elim
theorem WS.endT {M0 : Mem} {τ0 : TEnv} {ex : Er → Exn} {J : TEnv → Mem → Prop} {E : Er → Prop} {ss : List Stmt} (h : WS X T ss τ M (tryD ex τ0 M0 J E)) : WS X T ss τ M (tryB ex τ0 M0 J E) := .mk fun W tk σ G H hE hH D hR => h.run W tk σ G H hE hH D (csT hR)
theorem tX {ex : Er → Exn} {E : Er → Prop} (L : Mem) {x : Er} (h : E x) : ∃ A B, (L ++ M).Perm (A ++ B) ∧ ∃ x', ex x = ex x' ∧ τ = τ ∧ A = M ∧ E x' := ⟨M, L, List.perm_append_comm, x, rfl, rfl, rfl, h⟩
theorem ws_tryJ (ex : Er → Exn) (J : (α → Prop) → TEnv → Mem → Prop) {mb : Res α} {H : Er → Res α} {Q : α → Prop} (h : (mb.grab H).Out Q E1) (hs : X.stack = X.env :: X.outer) (hf : X.env.frame = some X.env.locals) (hc : ClOk X (l₀ :: ls))
    (hb : mb.Out Q (fun x => (H x).Out Q E1) → ∀ pn xe, PassesOwn (model X.prog X.w) X.A X.env xe → WS (X.tr pn xe) false body τ M (tryD ex τ M (J Q) fun x => (H x).Out Q E1))
    (hx : ∀ x, (H x).Out Q E1 → catN X (J Q) R (ex x) τ M (l₀ :: ls)) (hr : ∀ τ' M', J Q τ' M' → WS X T rest τ' M' R)
    (hN : X.N.Nodup := by first | decide +kernel | exact of_decide_eq_true (by kernel_rfl)) :
    WS X T (.Try body (l₀.hd :: ls.map Cl.hd) [] [] pos :: rest) τ M R := by
  refine ws_tryN hs hf hc (fun pn xe po => (hb (grab_out h) pn xe po).endT.imp ?_) hN
  rintro (τ' | d | τ' | τ' | ⟨y, τ'⟩) M' q
  · exact hr _ _ q
  · exact q.elim
  · exact q.elim
  · exact q.elim
  · obtain ⟨x, rfl, rfl, rfl, q⟩ := q
    exact catN_mono (fun _ _ => hr _ _) (hx x q)
end
/-! ### isinstance to an own class -/
def baseT : List String := ["NoneType", "bool", "int", "str", "list", "tuple", "dict"]
/-- isinstance(a, C): su tells of the own classes -/
def pisO (su : OK → Option Bool) (a : Any) : Res Bool := match tyA a with
  | some _ => .ok false
  | none => match okA a with
    | some k => (match su k with
      | some b => .ok b
      | none => .bad)
    | none => .bad
section
variable {X : Cx} {M : Mem} {P : PK'} {E1 : Er → Prop} {cl : OK → Addr × List Str} {Q : Bool → Prop} {su : OK → Option Bool} {a : Any} {D : Addr}
theorem r_isO {cv : V} (hc : ClsV cv (.ref D)) (ic : PySem.W.isClsIn X.K D = true) (tc : PySem.W.typeIn X.K (.ref D) = some (.type "type"))
    (hs : ∀ k b, su k = some b → ICls X.K (cl k).1 ∧ PySem.W.kitOne X.K (.ref (cl k).1) (.ref D) = some b) (h : (pisO su a).Out Q E1) (hk : ∀ b, Q b → P (.bl b) M)
    (hb : ∀ u ∈ baseT, PySem.W.subIn X.K (.type u) (.ref D) = some false) : BC X (.builtin "isinstance") [anyD cl a, .raw cv] M P := by
  cases e : tyA a with
  | some u => simp only [pisO, e] at h; exact c_isi hc (tyA_D e) (kit_tr ic tc (hb u (tyA_mem e))) (hk _ h)
  | none =>
    cases e2 : okA a with
    | none => simp only [pisO, e, e2] at h; exact h.elim
    | some k =>
      cases e3 : su k with
      | none => simp only [pisO, e, e2, e3] at h; exact h.elim
      | some b =>
        simp only [pisO, e, e2, e3] at h
        exact c_isi hc (okA_D' (hs k b e3).1 e2) (hs k b e3).2 (hk _ h)
theorem base_all {p : String → Prop} (h1 : p "NoneType") (h2 : p "bool") (h3 : p "int") (h4 : p "str") (h5 : p "list") (h6 : p "tuple") (h7 : p "dict") : ∀ u ∈ baseT, p u := by
  intro u hu
  simp only [baseT, List.mem_cons, List.not_mem_nil, or_false] at hu
  rcases hu with rfl | rfl | rfl | rfl | rfl | rfl | rfl <;> assumption
end
end Kh

set_option Elab.async false
set_option linter.all false
set_option maxRecDepth 100000
set_option maxHeartbeats 1000000
namespace Kh
open PySem PySem.Spec L2
open PySem.SeqAt (EqAt RcAt RcNeAt)
/-! ### lists that are told as data or as cells -/
def LsD (M : Mem) (d : Dat) (xs : List Dat) : Prop := d = .lst xs ∨ ∃ q, d = .raw (.ref q) ∧ (q, MC.lst xs) ∈ M
theorem LsD.cell {M : Mem} {q : Addr} {xs ys : List Dat} (e : xs = ys) (h : (q, MC.lst xs) ∈ M) : LsD M (.raw (.ref q)) ys := e ▸ .inr ⟨q, rfl, h⟩
theorem LsD.dat {M : Mem} {xs ys : List Dat} (e : xs = ys) : LsD M (.lst xs) ys := e ▸ .inl rfl
theorem LsD.get {K : PySem.W.Frag} {G H : Hp} {M : Mem} {d : Dat} {xs : List Dat} {v : V} (h : LsD M d xs) (hH : Hst K G M H) (dv : Den K G d v) : ∃ a vs, v = .ref a ∧ H a = some (.lst vs) ∧ DenL K G xs vs := by
  rcases h with rfl | ⟨q, rfl, hm⟩
  · obtain ⟨a, vs, rfl, ga, da⟩ := dv.lst_inv
    exact ⟨a, vs, rfl, hH.sub _ _ ga, da⟩
  · obtain ⟨vs, g1, g2⟩ := hH.mem _ hm
    exact ⟨q, vs, dv.raw_inv, g1, g2⟩
section
variable {X : Cx} {T : Bool} {τ : TEnv} {M : Mem} {P : PK'} {E : XKx} {R : RK} {x y : Dat} {cl : OK → Addr × List Str} {Q : Bool → Prop} {E1 : Er → Prop}
theorem o_neLs {xs ys : List Dat} (lx : LsD M x xs) (ly : LsD M y ys) (h : eqTL xs ys = true) (hd : dpDL xs ≤ 60) (hu : X.A.units + 64 < cLine) (hP : P (.bl false) M) : OP X T (compareOp .NotEq) x y M P := by
  intro G H v u hH dx dy Q hQ pins s σ v' u' _ I r r'
  obtain ⟨a, vs, rfl, ga, da⟩ := lx.get hH dx
  obtain ⟨b, us, rfl, gb, db⟩ := ly.get hH dy
  cases r; cases r'
  obtain ⟨ws, r1, p1, _⟩ := I.list (SqL.of ga)
  obtain ⟨zs, r2, p2, _⟩ := I.list (SqL.of gb)
  have hz : ws.toArray.size = zs.toArray.size := by rw [List.size_toArray, List.size_toArray, ← r1.length, ← r2.length, da.length, db.length, eqTL_len h]
  have := RcNeAt.lists (A := X.A) (e := fun _ => true) p1.isList p2.isList hz (by omega) (fun j h1 h2 => by
    have := eqTL_run I hH.sub xs ys X.A.in1 vs us ws zs h (by show X.A.units + 1 + dpDL xs < cLine; omega) da db r1 r2 j (by simpa using h1) (by simpa using h2)
    simpa using this)
  rw [all_true] at this
  exact this _ _ _ _ ⟨.bl false, H, I, rfl, hQ _ _ _ _ _ hP Stp.refl hH den_bl⟩
theorem o_eqLs {xs ys : List Dat} (lx : LsD M x xs) (ly : LsD M y ys) (h : eqTL xs ys = true) (hd : dpDL xs ≤ 60) (hu : X.A.units + 64 < cLine) (hP : P (.bl true) M) : OP X T (compareOp .Eq) x y M P := by
  intro G H v u hH dx dy Q hQ pins s σ v' u' _ I r r'
  obtain ⟨a, vs, rfl, ga, da⟩ := lx.get hH dx
  obtain ⟨b, us, rfl, gb, db⟩ := ly.get hH dy
  cases r; cases r'
  obtain ⟨ws, r1, p1, _⟩ := I.list (SqL.of ga)
  obtain ⟨zs, r2, p2, _⟩ := I.list (SqL.of gb)
  have hz : ws.toArray.size = zs.toArray.size := by rw [List.size_toArray, List.size_toArray, ← r1.length, ← r2.length, da.length, db.length, eqTL_len h]
  have := RcAt.lists (A := X.A) (e := fun _ => true) p1.isList p2.isList hz (by omega) (fun j h1 h2 => by
    have := eqTL_run I hH.sub xs ys X.A.in1 vs us ws zs h (by show X.A.units + 1 + dpDL xs < cLine; omega) da db r1 r2 j (by simpa using h1) (by simpa using h2)
    simpa using this)
  rw [all_true] at this
  exact this _ _ _ _ ⟨.bl true, H, I, rfl, hQ _ _ _ _ _ hP Stp.refl hH den_bl⟩
theorem r_eqLs {xs ys : List Any} (hu : X.A.units + 64 < cLine) (lx : LsD M x (xs.map (anyD cl))) (ly : LsD M y (ys.map (anyD cl))) (h : (peqA xs ys).Out Q E1) (hk : ∀ b, Q b → P (.bl b) M) : OP X T (compareOp .Eq) x y M P := by
  rw [← anyDL_map] at lx ly
  exact o_eqLs lx ly (eqAL_D (gd h).1.1) (by rw [dpAL_D]; exact (gd h).1.2) hu (hk _ (gd h).2)
theorem r_neLs {xs ys : List Any} (hu : X.A.units + 64 < cLine) (lx : LsD M x (xs.map (anyD cl))) (ly : LsD M y (ys.map (anyD cl))) (h : ((peqA xs ys).bind fun b => .ok !b).Out Q E1) (hk : ∀ b, Q b → P (.bl b) M) : OP X T (compareOp .NotEq) x y M P := by
  rw [← anyDL_map] at lx ly
  have g := gd (ob h)
  exact o_neLs lx ly (eqAL_D g.1.1) (by rw [dpAL_D]; exact g.1.2) hu (hk _ g.2)
theorem nf_ty {K : PySem.W.Frag} {C : Addr} {t : String} (h : PySem.W.subIn K (.type t) (.ref C) = some false) : PySem.W.notFirst K C (.type t) = true := by
  unfold PySem.W.notFirst; rw [h]; simp
/-- a cell's content told otherwise -/
theorem ws_castC {ss : List Stmt} (A : Mem) {B : Mem} {q : Addr} {zs zs' : List Dat} (e : zs = zs') (h : WS X T ss τ (A ++ (q, .lst zs') :: B) R) : WS X T ss τ (A ++ (q, .lst zs) :: B) R := by rw [e]; exact h
end
end Kh

set_option Elab.async false
set_option linter.all false
set_option maxRecDepth 100000
set_option maxHeartbeats 1000000
namespace Kh
open PySem PySem.Spec L2
open PyProof.Rows (boot_range)
/-! ### ranges with steps of any size -/
theorem turn_rangeL {P : Program} {w : World} {K : PySem.W.Frag} {tg : Expr} (it : Addr) (lo c : Int) (n : Nat) : Turn P w K tg (Itc lo c n) [it] it (fun i h => IsLongIter h it (lo + (i : Nat) * c) ((n : Int) - (i : Nat)) c) where
  mem := by simp
  obj := fun i h st b hb => by
    have e : b = it := by simpa using hb
    subst e
    exact ⟨_, st, fun v z => nomatch z⟩
  keep := fun i h h' st k => k it (by simp) _ st
  item := by
    intro X hP hw hK hc i pins s σ H E I hf st hg
    subst hP hw hK
    obtain ⟨f0, f1, f2, f3, f4, f5⟩ := hf it (by simp)
    have W := Walks.longrange (prog := X.prog) (w := X.w) (I.ok.hd hc) it lo c n
    refine W.item i s _ _ hg st fun v h' tk hv st' kk => ?_
    obtain ⟨t, rfl⟩ := hv
    have I1 : Inv X pins σ H { s with heap := h', toks := tk } := I.turned (fun b o hb e => kk b o (by simpa using hb) e) f0 f1 f3 f4 f5
    exact ⟨_, rfl, go_of (s := { s with heap := h', toks := tk }) (n := "longrange_iterator") st' rfl rfl (by decide) ⟨.int (lo + (i : Nat) * c), H, I1, ⟨t, rfl⟩, ⟨rfl, rfl⟩, st', fun b hb => (hf b hb).1⟩⟩
  done := by
    intro X hP hw hK hc i pins s σ H E I hf st hg
    subst hP hw hK
    obtain ⟨f0, f1, f2, f3, f4, f5⟩ := hf it (by simp)
    exact wpAny_pyNext_long_end (I.ok.hd hc) st (by have : n ≤ i := hg; omega) fun h' eb => ⟨rfl, I.turned (t' := s.toks) (fun b o hb e => eb b o hb e) f0 f1 f3 f4 f5⟩
  self := fun A i s Q E st h => wpAny_pyIter_longiter st h
/-- range(i, j, c): c above 0, of less than 8000 bits; n items -/
def RgB (i j c : Int) (n : Nat) : Prop := c ≠ 0 ∧ c.natAbs.log2 < 9000 ∧ Builtin.Range.rangeSize i j c = n
def iRng3B (ta : TA) : TI := fun σ H R => ta σ H fun vs H1 => ∃ (i j c : Int) (n : Nat), vs = [.int i, .int j, .int c] ∧ RgB i j c n ∧ R (Itc i c n) H1
section
variable {X : Cx} {tg : Expr}
theorem pi_range3B {a b c : Expr} {ta : TA} {p pos : Pos} (hg : Gl X "range") (hm : X.mg "range" = none) (ha : PA X [a, b, c] ta)
    (hs : starEach [a, b, c] X.env = (false, eval a X.env) :: starEach [b, c] X.env := by rfl) (hpl : (backTo pos (starEach [b, c] X.env)).any (·.1) = false := by rfl) :
    PI X tg (.Call (.Name "range" p) [a, b, c] [] pos) (iRng3B ta) := by
  refine ⟨fun pins s σ H R I h => ?_⟩
  refine PyProof.Rows.Call_ (ld_blt I hg hm boot_range (PyProof.Rows.callWith_type1 (thn (ha.run pos pins s σ H _ I h) fun us s1 ⟨vs, H1, I1, r1, q1⟩ => ?_) hs hpl))
  obtain ⟨i, j, k, n, e, ⟨c0, c1, c3⟩, q⟩ := q1
  subst e
  cases r1 with
  | cons r rr =>
    cases rr with
    | cons r' rr =>
      cases rr with
      | cons r'' rr =>
        cases rr
        obtain ⟨t, rfl⟩ := r
        obtain ⟨t', rfl⟩ := r'
        obtain ⟨t'', rfl⟩ := r''
        refine call_range_3 c0 ?_ (.inl (PyProof.noPylong_of_log2 c1))
        have I2 : Inv X pins σ H1 { s1 with heap := s1.heap.push { cls := .type "range", data := .fields #[.int i t, .int j t', .int k t''] } } := I1.kept (t' := s1.toks) fun b o e => Heap.get?_push_of_some _ e
        have e1 : i + ((0 : Nat) : Int) * k = i := by simp
        have e2 : (n : Int) - ((0 : Nat) : Int) = Builtin.Range.rangeSize i j k := by rw [c3]; simp
        cases hsm : Builtin.Range.small i j k with
        | true =>
          refine wpAny_pyIter_range (IsRange.new ..) hsm ?_
          refine pi_one (tk := s1.toks) I2 _ (turn_rangeC _ i k n) ?_ q
          show IsRangeIter _ _ (i + ((0 : Nat) : Int) * k) ((n : Int) - ((0 : Nat) : Int)) k
          rw [e1, e2]
          exact Heap.get?_push_size _ rfl
        | false =>
          refine wpAny_pyIter_longrange (IsRange.new ..) hsm ?_
          refine pi_one (tk := s1.toks) I2 _ (turn_rangeL _ i k n) ?_ q
          show IsLongIter _ _ (i + ((0 : Nat) : Int) * k) ((n : Int) - ((0 : Nat) : Int)) k
          rw [e1, e2]
          exact Heap.get?_push_size _ rfl
end
def rng3B (i j c : Int) : Prop := (small62 i ∧ small62 j) ∧ 0 < c ∧ c.natAbs.log2 < 9000
instance {i j c : Int} : Decidable (rng3B i j c) := inferInstanceAs (Decidable (_ ∧ _))
theorem rng3_RgB {i j c : Int} (h : rng3B i j c) : RgB i j c ((j - i + c - 1) / c).toNat := by
  obtain ⟨⟨⟨h1, h2⟩, h3, h4⟩, h5, h6⟩ := h
  have e1 : j - i + c - 1 = (j - i - 1) + 1 * c := by omega
  refine ⟨by omega, h6, ?_⟩
  unfold Builtin.Range.rangeSize
  rw [if_pos (by omega), e1, Int.add_mul_ediv_right _ _ (by omega)]
  split
  · have := Int.ediv_nonneg (a := j - i - 1) (b := c) (by omega) (by omega)
    omega
  · have := Int.ediv_neg_of_neg_of_pos (a := j - i - 1) (b := c) (by omega) (by omega)
    omega
section
variable {X : Cx} {τ : TEnv} {M : Mem} {E : XKx} {a b c tg : Expr} {p pos : Pos} {PI' : List Dat → Mem → (Mem → Prop) → Prop}
theorem ei_range3B (hm : X.mg "range" = none) (h : EX X false a τ M (fun d M1 => EX X false b τ M1 (fun d2 M2 => EX X false c τ M2 (fun d3 M3 => ∃ i j c' n, d = .int i ∧ d2 = .int j ∧ d3 = .int c' ∧ RgB i j c' n ∧ PI' (rngC i c' n) M3 anyM) E) E) E) (hg : Gl X "range" := by rfl)
    (hs : starEach [a, b, c] X.env = (false, eval a X.env) :: starEach [b, c] X.env := by rfl) (hs2 : starEach [b, c] X.env = (false, eval b X.env) :: starEach [c] X.env := by rfl) (hs3 : starEach [c] X.env = (false, eval c X.env) :: starEach [] X.env := by rfl) (hpl : (backTo pos (starEach [b, c] X.env)).any (·.1) = false := by rfl) :
    EI X tg (.Call (.Name "range" p) [a, b, c] [] pos) τ M PI' E := .mk fun W tk σ G H hE hH R hR hX => by
  refine tWI_of (pi_range3B hg hm (pa_cons pe_W (pa_cons pe_W (pa_cons pe_W pa_nil hs3) hs2) hs) hs hpl) ?_
  refine h.run W tk σ G H hE hH _ ?_ hX
  intro d M1 v G1 H1 hb s1 h1 dv
  refine hb.run W tk σ G1 H1 (hE.up s1.gg) h1 _ ?_ (hX.step s1)
  intro d2 M2 v2 G2 H2 hb2 s2 h2 dv2
  refine hb2.run W tk σ G2 H2 ((hE.up s1.gg).up s2.gg) h2 _ ?_ ((hX.step s1).step s2)
  intro d3 M3 v3 G3 H3 ⟨i, j, c', n, ed, ed2, ed3, hrg, hp⟩ s3 h3 dv3
  subst ed; subst ed2; subst ed3
  exact ⟨i, j, c', n, by rw [dv.int_inv, dv2.int_inv, dv3.int_inv], hrg, hR _ _ _ _ _ _ hp ((s1.trans s2).trans s3) h3 walkD_rangeC⟩
theorem ei_rng3B (hm : X.mg "range" = none) (h : EX X false a τ M (fun d M1 => EX X false b τ M1 (fun d2 M2 => EX X false c τ M2 (fun d3 M3 => ∃ i j k, d = .int i ∧ d2 = .int j ∧ d3 = .int k ∧ rng3B i j k ∧ PI' ((rangeC i k ((j - i + k - 1) / k).toNat).map Dat.int) M3 anyM) E) E) E) (hg : Gl X "range" := by rfl)
    (hs : starEach [a, b, c] X.env = (false, eval a X.env) :: starEach [b, c] X.env := by rfl) (hs2 : starEach [b, c] X.env = (false, eval b X.env) :: starEach [c] X.env := by rfl) (hs3 : starEach [c] X.env = (false, eval c X.env) :: starEach [] X.env := by rfl) (hpl : (backTo pos (starEach [b, c] X.env)).any (·.1) = false := by rfl) :
    EI X tg (.Call (.Name "range" p) [a, b, c] [] pos) τ M PI' E :=
  ei_range3B hm (h.imp (fun d M1 h1 => h1.imp (fun d2 M2 h2 => h2.imp (fun d3 M3 ⟨i, j, k, e1, e2, e3, hr, hp⟩ => ⟨i, j, k, _, e1, e2, e3, rng3_RgB hr, by rw [rngC_map]; exact hp⟩) fun _ _ x => x) fun _ _ x => x) fun _ _ x => x) hg hs hs2 hs3 hpl
end
/-! ### == by an own __eq__, as it is found -/
def EqO (pr : Program) (w : World) (K : PySem.W.Frag) (mg : Str → Option Value) (base : Heap) (A : Around) (x y : Dat) (m : Res Bool) : Prop :=
  ∃ (C fa : Addr) (fd : FuncData) (k : Nat) (ps : List Str) (S : Spc) (t : Value), FnD pr w K mg base k fa fd ps S ∧ Room (k + 1) A ∧ Meth K C "__eq__" fa ∧ PySem.W.findIn K (.ref C) "__ne__" = some (some (.builtin "object.__ne__")) ∧ ICls K C ∧ Binds K fd ps [] ∧
    (∀ M, IsI C "__eq__" M x) ∧ (∀ M, TyD K M y t) ∧ PySem.W.notFirst K C t = true ∧ ∀ (M : Mem) (P' : PK') (E' : XKx), m.Out (fun r => P' (.bl r) M) (fun _ => False) → S [x, y] M P' E'
section
variable {X : Cx} {T : Bool} {M : Mem} {P : PK'} {x y : Dat} {m : Res Bool} {Q : Bool → Prop} {E1 : Er → Prop}
theorem r_eqQ (q : EqO X.prog X.w X.K X.mg X.base X.A x y m) (h : m.ne.Out Q E1) (hk : ∀ b, Q b → P (.bl b) M) : OP X T (compareOp .Eq) x y M P := by
  obtain ⟨C, fa, fd, k, ps, S, t, F, hr, mt, _, _, hb, hx, ty, hn, hS⟩ := q
  exact r_eqOwn F (hr.mono (Nat.le_succ _)) mt hb hx ty hn (hS M) h hk
theorem r_neQ (q : EqO X.prog X.w X.K X.mg X.base X.A x y m) (h : m.ne.Out Q E1) (hk : ∀ b, Q b → P (.bl (!b)) M) : OP X T (compareOp .NotEq) x y M P := by
  obtain ⟨C, fa, fd, k, ps, S, t, F, hr, mt, hne, hl, hb, hx, ty, hn, hS⟩ := q
  exact r_neOwn F hr mt hne hl hb hx ty hn (hS M) h hk
end
end Kh

set_option Elab.async false
set_option linter.all false
set_option maxRecDepth 100000
set_option maxHeartbeats 1000000
namespace Kh
open PySem PySem.Spec L2
open PySem.SeqAt PySem.MeetsSeq PySem.MeetsSeq2 PySem.MeetsSeq3 PySem.SeqRoads2
open PySem.AutoSeq1 (wpAny_loadPart')
/-! ### tuples compared, whose items have an own == -/
theorem tuple_eqSt {prog : Program} {w : World} (l b : Addr) (items items2 : Array Value) (n n2 : Nat) (dd dd2 : Option Addr) (sl sl2 : Array (Option Value)) (I : Nat → Shared → Prop) (F : Shared → Prop) :
    MeetsIn prog w (Builtin.«tuple.__eq__» ⟨[.ref l, .ref b], []⟩)
      (fun A R s => s.heap.get? l = some { cls := .type "tuple", dict := dd, data := .seq items n, slots := sl } ∧ s.heap.get? b = some { cls := .type "tuple", dict := dd2, data := .seq items2 n2, slots := sl2 } ∧ I 0 s ∧
        (∀ j (h1 : j < items.size) (h2 : j < items2.size) (s' : Shared), I j s' → ∀ (Q : Bool → Shared → Prop), (∀ t s'', (t = true → I (j + 1) s'') → (t = false → F s'') → Q t s'') → wpAny (model prog w) A.in1 (eqBool items[j] items2[j]) Q (fun e s'' => R (.error e) s'') s') ∧
        (∀ s', I (min items.size items2.size) s' → R (.ok (.ret (.bool (items.size == items2.size)))) s') ∧ (∀ s', F s' → R (.ok (.ret (.bool false))) s')) :=
  .of_wp fun A R s h => by
    obtain ⟨hp, g, d, tk, os⟩ := s; obtain ⟨hl, hb, h0, he, hfin, hno⟩ := h
    have f2 := AutoSeq1.sub_tuple_tuple
    have hZ : (items.toList.zip items2.toList).length = min items.size items2.size := by simp
    wp_walk using wpAny_loadPart' hl, wpAny_loadPart' hb, wpAny_forIn_list _ (fun rest b s' => b.1 = none ∧ ∃ i, rest = (items.toList.zip items2.toList).drop i ∧ i ≤ min items.size items2.size ∧ I i s') _
    case turn =>
      rintro ⟨y, x⟩ rest b s' ⟨hb', i, hz, hle, hI⟩
      have hlt : i < (items.toList.zip items2.toList).length := by
        rcases Nat.lt_or_ge i (items.toList.zip items2.toList).length with h' | h'
        · exact h'
        · rw [List.drop_of_length_le h'] at hz; cases hz
      have hm : i < min items.size items2.size := hZ ▸ hlt
      have h1 : i < items.size := Nat.lt_of_lt_of_le hm (Nat.min_le_left _ _)
      have h2 : i < items2.size := Nat.lt_of_lt_of_le hm (Nat.min_le_right _ _)
      rw [List.drop_eq_getElem_cons hlt] at hz
      injection hz with hyx hrest
      have hy : y = items[i] := by have := congrArg Prod.fst hyx; simpa using this
      have hx : x = items2[i] := by have := congrArg Prod.snd hyx; simpa using this
      subst hy hx
      refine wpAny_bind (he i h1 h2 s' hI _ ?_)
      intro t s'' hT hF
      cases t with
      | true =>
        have hT := hT rfl
        wp_walk
        exact ⟨rfl, i + 1, hrest, hm, hT⟩
      | false =>
        have hF := hno _ (hF rfl)
        wp_walk
        exact ⟨_, rfl, by simpa using hF⟩
    case fin =>
      rintro ⟨b1, b2⟩ s' ⟨hb', i, hz, hle, hI⟩
      simp only at hb'
      subst hb'
      have hge : min items.size items2.size ≤ i := by
        rcases Nat.lt_or_ge i (items.toList.zip items2.toList).length with h' | h'
        · rw [List.drop_eq_getElem_cons h'] at hz; cases hz
        · exact hZ ▸ h'
      have hi : i = min items.size items2.size := Nat.le_antisymm hle hge
      subst hi
      have hR := hfin _ hI
      wp_walk
      exact ⟨_, rfl, by simpa [Builtin.Tuple.tupleCompareSizes] using hR⟩
    case h =>
      exact ⟨rfl, 0, rfl, Nat.zero_le _, h0⟩
/-- what a tuple's == answers, item by item -/
def eqV {α : Type} (me : α → α → Res Bool) : List α → List α → Res Bool
  | [], [] => .ok true
  | x :: xs, y :: ys => (me x y).bind fun t => cond t (eqV me xs ys) (.ok false)
  | _, _ => .ok false
theorem vals_get {vs : List V} {us : List Value} (r : Vals vs us) : ∀ {j : Nat} {a : Addr}, vs[j]? = some (.ref a) → us[j]? = some (.ref a) := by
  induction r with
  | nil => intro j a h; simp at h
  | cons h t ih =>
    intro j a e
    cases j with
    | zero =>
      simp at e; subst e
      obtain rfl := h
      rfl
    | succ j => simpa using ih (by simpa using e)
theorem eqV_end {α : Type} {me : α → α → Res Bool} {xs ys : List α} : eqV me (xs.drop (min xs.length ys.length)) (ys.drop (min xs.length ys.length)) = .ok (xs.length == ys.length) := by
  rcases Nat.lt_trichotomy xs.length ys.length with h | h | h
  · rw [Nat.min_eq_left (by omega), List.drop_length]
    rw [List.drop_eq_getElem_cons h]
    simp [eqV]; omega
  · rw [h, Nat.min_self, ← h, List.drop_length, h, List.drop_length]
    simp [eqV]
  · rw [Nat.min_eq_right (by omega), List.drop_length]
    rw [List.drop_eq_getElem_cons h]
    simp [eqV]; omega
section
variable {X : Cx} {T : Bool} {M : Mem} {P : PK'} {α : Type} {f : α → Dat} {me : α → α → Res Bool} {xs ys : List α} {Q1 : Bool → Prop} {E1 : Er → Prop}
theorem o_eqTup (hel : ∀ x y, EqO X.prog X.w X.K X.mg X.base X.A.in1 (f x) (f y) (me x y)) (hR : ∀ x, isR (f x) = true) (inj : ∀ (G : Hp) x y a, Den X.K G (f x) (.ref a) → Den X.K G (f y) (.ref a) → x = y) (hs : ∀ x, me x x = .ok true)
    (hu : X.A.units + 64 < cLine) (h : (eqV me xs ys).ne.Out Q1 E1) (hk : ∀ b, Q1 b → P (.bl b) M) : OP X T (compareOp .Eq) (.tup (xs.map f)) (.tup (ys.map f)) M P := by
  intro G H v u hH dx dy Q hQ pins s σ v' u' _ I r r'
  obtain ⟨a, vs, rfl, ga, da⟩ := dx.tup_inv
  obtain ⟨b, us, rfl, gb, db⟩ := dy.tup_inv
  cases r; cases r'
  obtain ⟨ws, r1, p1, _⟩ := I.tuple (SqT.of (hH.sub _ _ ga))
  obtain ⟨zs, r2, p2, _⟩ := I.tuple (SqT.of (hH.sub _ _ gb))
  have hw : ws.length = xs.length := by rw [← r1.length, da.length, List.length_map]
  have hz : zs.length = ys.length := by rw [← r2.length, db.length, List.length_map]
  have h : (eqV me xs ys).Out Q1 (fun _ => False) := ne_out h
  obtain ⟨⟨cls, dd, data, sl⟩, ho, hc, n, hd⟩ := id p1
  obtain ⟨⟨cls2, dd2, data2, sl2⟩, ho2, hc2, n2, hd2⟩ := id p2
  simp only at hc hd hc2 hd2
  subst hc hd hc2 hd2
  refine wpAny_richCompare_same_room (T := "tuple") (op := .Eq) ⟨_, ho, rfl⟩ ⟨_, ho2, rfl⟩ F.slot_tuple_eq (call_meetsIn F.slot_tuple_eq ⟨_, ho, rfl⟩ F.entry_tuple_eq (F.args_tuple_eq_2 _ _)
    (tuple_eqSt a b ws.toArray zs.toArray n n2 dd dd2 sl sl2 (fun j s' => ∃ H' G', Inv X pins σ H' s' ∧ Stp G M H G' M H' ∧ Hst X.K G' M H' ∧ (eqV me (xs.drop j) (ys.drop j)).Out Q1 (fun _ => False))
      (fun s' => ∃ H' G', Inv X pins σ H' s' ∧ Stp G M H G' M H' ∧ Hst X.K G' M H' ∧ Q1 false)) ⟨ho, ho2, ⟨H, G, I, Stp.refl, hH, h⟩, ?_, ?_, ?_⟩) (by omega)
  · intro j h1 h2 s' ⟨H', G', I', st, hst, hq⟩ Qb hQb
    have j1 : j < xs.length := by rw [← hw]; simpa using h1
    have j2 : j < ys.length := by rw [← hz]; simpa using h2
    rw [List.drop_eq_getElem_cons j1, List.drop_eq_getElem_cons j2] at hq
    obtain ⟨v1, e1, d1⟩ := da.get (show (xs.map f)[j]? = some (f xs[j]) by rw [List.getElem?_map, List.getElem?_eq_getElem j1]; rfl)
    obtain ⟨v2, e2, d2⟩ := db.get (show (ys.map f)[j]? = some (f ys[j]) by rw [List.getElem?_map, List.getElem?_eq_getElem j2]; rfl)
    obtain ⟨a1, rfl⟩ := den_isR (hR _) d1
    obtain ⟨a2, rfl⟩ := den_isR (hR _) d2
    have w1 : ws.toArray[j] = .ref a1 := by
      have := vals_get r1 e1
      rw [List.getElem?_eq_getElem (by rw [hw]; exact j1)] at this
      simpa using this
    have w2 : zs.toArray[j] = .ref a2 := by
      have := vals_get r2 e2
      rw [List.getElem?_eq_getElem (by rw [hz]; exact j2)] at this
      simpa using this
    rw [w1, w2]
    generalize xs[j] = x at hq d1
    generalize ys[j] = y at hq d2
    by_cases e : a1 = a2
    · subst e
      obtain rfl := inj _ _ _ _ d1 d2
      have hq : ((me x x).bind fun t => cond t (eqV me (xs.drop (j + 1)) (ys.drop (j + 1))) (.ok false)).Out Q1 (fun _ => False) := hq
      rw [hs x, bind_ok, cond_true] at hq
      exact EqAt.same (A := X.A.in1) (s := s') (.ref a1) X.prog X.w _ Qb (hQb true s' (fun _ => ⟨H', G', I', st, hst, hq⟩) (fun z => nomatch z))
    · unfold eqBool
      refine wpAny_holding ?_
      refine wpAny_ite_split (fun hab => absurd (by have := eq_of_beq hab; injection this) e) (fun _ => ?_)
      obtain ⟨C, fa, fd, k, ps, S, t, FF, hrm, mt, _, _, hb, hx, ty, hn, hS⟩ := hel x y
      have dx' := d1.up st.gg
      have dy' := d2.up st.gg
      obtain ⟨a', dxa, fs, ea', ea, _⟩ := (hx M).get hst dx'
      cases ea'
      obtain ⟨mA, J, _⟩ := ins_get I'.hok ea
      obtain ⟨od, J, _⟩ := J.look
      obtain ⟨m, hF⟩ := I'.fr
      have ry : RelV (.ref a2) (Value.ref a2) := rfl
      obtain ⟨Pr, Z, pz, _⟩ := kit_of I' ry (tyD_ok (ty M) hst dy')
      refine wpAny_bind ?_
      have hq2 : (me x y).Out (fun t => (cond t (eqV me (xs.drop (j + 1)) (ys.drop (j + 1))) (.ok false)).Out Q1 (fun _ => False)) (fun _ => False) := ob hq
      have hsp : toSp X.K S [.ref a1, .ref a2] H' (fun z H2 => ∃ t, z = .bl t ∧ ∃ G2, Stp G M H G2 M H2 ∧ Hst X.K G2 M H2 ∧ (cond t (eqV me (xs.drop (j + 1)) (ys.drop (j + 1))) (.ok false)).Out Q1 (fun _ => False)) (fun _ _ _ => False) :=
        ap_toSp (ap_all (hS M (UpP fun d M2 => ∃ t, d = .bl t ∧ M2 = M ∧ (cond t (eqV me (xs.drop (j + 1)) (ys.drop (j + 1))) (.ok false)).Out Q1 (fun _ => False)) (UpP E0') (out_mono hq2 (fun t q => UpP.mk ⟨t, rfl, rfl, q⟩) fun _ z => z))) (.cons dx' (.cons dy' .nil)) hst
          (fun d M2 z G2 H2 ⟨t, ed, em, hp⟩ s2 h2 dz => by subst ed; subst em; exact ⟨t, dz.bl_inv, G2, st.trans s2, h2, hp⟩) noX
      refine PySem.W.cmp_K (op := .Eq) (tb := t) hrm.units0 hF I'.ok.mod.kin J (Z.ty _ _ I'.kIn pz) hn mt.1 mt.2 ?_
      refine wpAny_mono (run_dA (W := fun _ _ _ _ => False) (us := [.ref a1, .ref a2]) (vs := [.ref a1, .ref a2]) FF (hrm.mono (Nat.le_succ _)) I'.env0.in1 hb takes0 I' (.cons rfl (.cons rfl .nil)) hsp) (fun r s2 q => ?_) fun _ _ z => z
      obtain ⟨z, H2, I2, rz, t2, ez, G2, st2, hst2, q⟩ := q
      subst ez
      cases rz
      refine wpAny_truthy_bool (hQb t2 s2 (fun e => ?_) (fun e => ?_))
      · subst e; exact ⟨H2, G2, I2, st2, hst2, q⟩
      · subst e; exact ⟨H2, G2, I2, st2, hst2, q⟩
  · intro s' ⟨H', G', I', st, hst, hq⟩
    have e : min ws.toArray.size zs.toArray.size = min xs.length ys.length := by simp [hw, hz]
    rw [e, eqV_end] at hq
    refine ⟨(fun z => nomatch z), ?_⟩
    have e2 : (ws.toArray.size == zs.toArray.size) = (xs.length == ys.length) := by simp [hw, hz]
    rw [e2]
    exact ⟨.bl _, H', I', rfl, hQ _ _ _ _ _ (hk _ hq) st hst den_bl⟩
  · intro s' ⟨H', G', I', st, hst, hq⟩
    exact ⟨(fun z => nomatch z), ⟨.bl _, H', I', rfl, hQ _ _ _ _ _ (hk _ hq) st hst den_bl⟩⟩
end
/-! instances at one place -/
theorem den_obj_int {K : PySem.W.Frag} {G : Hp} {C C' a : Addr} {f f' : Str} {n m : Int} (d1 : Den K G (.obj C [f] [.int n]) (.ref a)) (d2 : Den K G (.obj C' [f'] [.int m]) (.ref a)) : C = C' ∧ n = m := by
  obtain ⟨a1, x1, v1, e1, g1, _, l1⟩ := d1.obj_inv
  obtain ⟨a2, x2, v2, e2, g2, _, l2⟩ := d2.obj_inv
  cases e1; cases e2
  obtain ⟨v1, r1, rfl, h1, l1⟩ := l1.cons_inv
  obtain ⟨v2, r2, rfl, h2, l2⟩ := l2.cons_inv
  rw [h1.int_inv] at g1; rw [h2.int_inv] at g2
  rw [g1] at g2
  simp at g2
  exact ⟨g2.1, g2.2.2.2⟩
theorem den_obj_cls {K : PySem.W.Frag} {G : Hp} {C C' a : Addr} {ns ns' : List Str} {ds ds' : List Dat} (d1 : Den K G (.obj C ns ds) (.ref a)) (d2 : Den K G (.obj C' ns' ds') (.ref a)) : C = C' := by
  obtain ⟨a1, x1, v1, e1, g1, _, l1⟩ := d1.obj_inv
  obtain ⟨a2, x2, v2, e2, g2, _, l2⟩ := d2.obj_inv
  cases e1; cases e2
  rw [g1] at g2
  injection g2 with g2
  injection g2
theorem cls_ne {K : PySem.W.Frag} {C D : Addr} (h1 : PySem.W.kitOne K (.ref C) (.ref D) = some false) (h2 : PySem.W.kitOne K (.ref D) (.ref D) = some true) (e : C = D) : False := by
  subst e; rw [h1] at h2; cases h2
/-! ### tuples joined and cut -/
theorem denL_nil0 {K : PySem.W.Frag} {G : Hp} {ds : List Dat} (h : DenL K G ds []) : ds = [] := by
  have := h.length; simp at this; exact List.eq_nil_of_length_eq_zero this.symm
section
variable {X : Cx} {T : Bool} {M : Mem} {P : PK'} {α : Type} {E1 : Er → Prop}
theorem o_catT {xs ys : List Dat} (hl : xs.length + ys.length ≤ sizeLine) (h : P (.tup (xs ++ ys)) M) : OP X T (binaryOp .Add) (.tup xs) (.tup ys) M P := op_of op_catA fun G H v u hH dx dy Q hP => by
  obtain ⟨p, vs, rfl, g1, d1⟩ := dx.tup_inv
  obtain ⟨q, us, rfl, g2, d2⟩ := dy.tup_inv
  refine ⟨p, q, vs, us, rfl, rfl, SqT.of (hH.sub _ _ g1), SqT.of (hH.sub _ _ g2), by rw [d1.length, d2.length]; exact hl, ?_, ?_, fun _ _ r hr => ?_⟩
  · intro e
    subst e
    obtain rfl := denL_nil0 d1
    exact hP _ _ _ _ _ h Stp.refl hH dy
  · intro _ e
    subst e
    obtain rfl := denL_nil0 d2
    rw [List.append_nil] at h
    exact hP _ _ _ _ _ h Stp.refl hH dx
  · obtain ⟨s2, h2⟩ := Stp.new (o := .tup (vs ++ us)) hH hr
    exact hP _ _ _ _ _ h s2 h2 (den_tup upd_same ((d1.append d2).up s2.gg))
theorem r_catT (f : α → Dat) {xs ys : List α} {Q : List α → Prop} (h : (pcatL xs ys).Out Q E1) (hk : ∀ z, Q z → P (vtpD f z) M) : OP X T (binaryOp .Add) (vtpD f xs) (vtpD f ys) M P :=
  o_catT (by rw [List.length_map, List.length_map]; exact (gd h).1) (by rw [← List.map_append]; exact hk _ (gd h).2)
theorem l_tupA {ds : List Dat} {lo hi : Option Int} (h : P (.tup (cutD ds lo hi)) M) : SQ X (.tup ds) lo hi M P := ⟨_, sl_tupA, fun G H v hH dx Q hP => by
  obtain ⟨p, vs, rfl, g, dl⟩ := dx.tup_inv
  refine ⟨p, vs, rfl, SqT.of (hH.sub _ _ g), fun hw => ?_, fun _ r hr => ?_⟩
  · rw [dl.length] at hw
    have e : cutD ds lo hi = ds := by
      unfold cutD
      rw [hw.1, hw.2, List.drop_zero, Nat.sub_zero, List.take_length]
    rw [e] at h
    exact hP _ _ _ _ _ h Stp.refl hH dx
  · obtain ⟨s2, h2⟩ := Stp.new (o := .tup (cutV vs lo hi)) hH hr
    exact hP _ _ _ _ _ h s2 h2 (den_tup upd_same ((denL_cut dl).up s2.gg))⟩
theorem l_tupT2 (f : α → Dat) {xs : List α} {lo hi : Option Int} (h : P (vtpD f (cutD xs lo hi)) M) : SQ X (vtpD f xs) lo hi M P := l_tupA (by rw [cutD_map]; exact h)
end
/-- f() -/
theorem ex_callF0 {X : Cx} {T : Bool} {τ : TEnv} {M : Mem} {P : PK'} {E : XKx} {S : Spc} {k : Nat} {f : Addr} {fd : FuncData} {ps : List Str} {x qual : Str} {st : Stmt} {p pos : Pos} (F : FnD X.prog X.w X.K X.mg X.base k f fd ps S) (hr : Room k X.A) (hm : X.mg x = some (.ref f)) (FF : Fun X.K x qual st f fd) (hb : Binds X.K fd ps [])
    (h : S [] M (UpP P) (UpP E)) (hg : Gl X x := by rfl) (hdb : (x == ("__debug__" : Str)) = false := by decide) : EX X T (.Call (.Name x p) [] [] pos) τ M P E :=
  ex_call0 (df := []) (dvs := []) F hr hm FF.kp hb .nil (fun _ => .nil) (ap_all h) hg hdb
end Kh

set_option Elab.async false
set_option linter.all false
set_option maxRecDepth 100000
set_option maxHeartbeats 1000000
namespace Kh
open PySem PySem.Spec L2
/-! ### bits -/
section
variable {X : Cx} {T : Bool} {M : Mem} {P : PK'} {E1 : Er → Prop} {i j : Int}
def pshl (i j : Int) : Res Int := guard (0 ≤ j ∧ j ≤ 1000000 ∧ i.natAbs < 2 ^ 64) (i * 2 ^ j.toNat)
def pshr (i j : Int) : Res Int := guard (0 ≤ j) (i / 2 ^ j.toNat)
theorem r_shl {Q : Int → Prop} (h : (pshl i j).Out Q E1) (hk : ∀ z, Q z → P (.int z) M) : OP X T (binaryOp .LShift) (.int i) (.int j) M P := o_shl (gd h).1 (hk _ (gd h).2)
theorem r_shr {Q : Int → Prop} (h : (pshr i j).Out Q E1) (hk : ∀ z, Q z → P (.int z) M) : OP X T (binaryOp .RShift) (.int i) (.int j) M P := o_shr (gd h).1 (hk _ (gd h).2)
end
/-! ### sorted(set(pairs)) -/
def ltP2 (p q : Int × Int) : Prop := p.1 < q.1 ∨ (p.1 = q.1 ∧ p.2 < q.2)
instance {p q : Int × Int} : Decidable (ltP2 p q) := inferInstanceAs (Decidable (_ ∨ _))
def insU (p : Int × Int) : List (Int × Int) → List (Int × Int)
  | [] => [p]
  | q :: r => if p = q then q :: r else if ltP2 p q then p :: q :: r else q :: insU p r
def sortU : List (Int × Int) → List (Int × Int)
  | [] => []
  | p :: r => insU p (sortU r)
theorem ltP2_irr (p : Int × Int) : ¬ ltP2 p p := by unfold ltP2; omega
theorem ltP2_asy {p q : Int × Int} (h : ltP2 p q) : ¬ ltP2 q p := by unfold ltP2 at *; omega
theorem ltP2_tr {p q r : Int × Int} (h : ltP2 p q) (g : ltP2 q r) : ltP2 p r := by unfold ltP2 at *; omega
theorem ltP2_tot {p q : Int × Int} (h : p ≠ q) (g : ¬ ltP2 p q) : ltP2 q p := by
  unfold ltP2 at *
  have : p.1 ≠ q.1 ∨ p.2 ≠ q.2 := by
    by_cases a : p.1 = q.1
    · right; exact fun b => h (Prod.ext a b)
    · left; exact a
  omega
theorem mem_insU {p x : Int × Int} : ∀ {l : List (Int × Int)}, x ∈ insU p l ↔ x = p ∨ x ∈ l
  | [] => by simp [insU]
  | q :: r => by
    unfold insU
    by_cases a : p = q
    · rw [if_pos a]; subst a; simp
    · rw [if_neg a]
      by_cases b : ltP2 p q
      · rw [if_pos b]; simp
      · rw [if_neg b, List.mem_cons, mem_insU, List.mem_cons]
        constructor
        · rintro (h | h | h)
          · exact .inr (.inl h)
          · exact .inl h
          · exact .inr (.inr h)
        · rintro (h | h | h)
          · exact .inr (.inl h)
          · exact .inl h
          · exact .inr (.inr h)
theorem mem_sortU {x : Int × Int} : ∀ {l : List (Int × Int)}, x ∈ sortU l ↔ x ∈ l
  | [] => by simp [sortU]
  | p :: r => by rw [sortU, mem_insU, mem_sortU, List.mem_cons]
theorem srt_insU {p : Int × Int} : ∀ {l : List (Int × Int)}, l.Pairwise ltP2 → (insU p l).Pairwise ltP2
  | [], _ => by unfold insU; simp
  | q :: r, h => by
    have h1 := List.pairwise_cons.mp h
    unfold insU
    by_cases a : p = q
    · rw [if_pos a]; exact h
    · rw [if_neg a]
      by_cases b : ltP2 p q
      · rw [if_pos b]
        exact List.pairwise_cons.mpr ⟨fun x hx => by
          rcases List.mem_cons.mp hx with e | e
          · rw [e]; exact b
          · exact ltP2_tr b (h1.1 x e), h⟩
      · rw [if_neg b]
        exact List.pairwise_cons.mpr ⟨fun x hx => by
          rcases mem_insU.mp hx with e | e
          · rw [e]; exact ltP2_tot a b
          · exact h1.1 x e, srt_insU h1.2⟩
theorem srt_sortU : ∀ {l : List (Int × Int)}, (sortU l).Pairwise ltP2
  | [] => by simp [sortU]
  | p :: r => by rw [sortU]; exact srt_insU srt_sortU
theorem srt_uniq : ∀ {l m : List (Int × Int)}, l.Pairwise ltP2 → m.Pairwise ltP2 → (∀ x, x ∈ l ↔ x ∈ m) → l = m
  | [], [], _, _, _ => rfl
  | [], b :: m, _, _, h => by have := (h b).mpr List.mem_cons_self; simp at this
  | a :: l, [], _, _, h => by have := (h a).mp List.mem_cons_self; simp at this
  | a :: l, b :: m, h1, h2, h => by
    have p1 := List.pairwise_cons.mp h1
    have p2 := List.pairwise_cons.mp h2
    have e : a = b := by
      rcases List.mem_cons.mp ((h a).mp List.mem_cons_self) with e | e
      · exact e
      · rcases List.mem_cons.mp ((h b).mpr List.mem_cons_self) with g | g
        · exact g.symm
        · exact absurd (p2.1 a e) (ltP2_asy (p1.1 b g))
    subst e
    rw [srt_uniq p1.2 p2.2 fun x => ⟨fun hx => by
      rcases List.mem_cons.mp ((h x).mp (List.mem_cons_of_mem _ hx)) with q | q
      · subst q; exact absurd (p1.1 _ hx) (ltP2_irr _)
      · exact q, fun hx => by
      rcases List.mem_cons.mp ((h x).mpr (List.mem_cons_of_mem _ hx)) with q | q
      · subst q; exact absurd (p2.1 _ hx) (ltP2_irr _)
      · exact q⟩]
theorem code2 {B x y : Int} : TS.code B [x, y] = x * B + y := by
  have e1 : B ^ 1 = B := Int.pow_one B
  have e0 : B ^ 0 = 1 := Int.pow_zero B
  show x * B ^ 1 + (y * B ^ 0 + 0) = x * B + y
  rw [e1, e0, Int.mul_one, Int.add_zero]
theorem code_lt {B : Int} {p q : Int × Int} (hp : 0 ≤ p.2 ∧ p.2 < B) (hq : 0 ≤ q.2 ∧ q.2 < B) (ne : p ≠ q) (h : TS.code B [p.1, p.2] ≤ TS.code B [q.1, q.2]) : ltP2 p q := by
  rw [code2, code2] at h
  unfold ltP2
  rcases Int.lt_trichotomy p.1 q.1 with c | c | c
  · exact .inl c
  · refine .inr ⟨c, ?_⟩
    have : p.2 ≠ q.2 := fun e => ne (Prod.ext c e)
    rw [c] at h
    omega
  · have : (q.1 + 1) * B ≤ p.1 * B := Int.mul_le_mul_of_nonneg_right (by omega) (by omega)
    rw [Int.add_mul] at this
    omega
theorem bound_of : ∀ rows : List (Int × Int), ∃ B : Int, 0 < B ∧ ∀ p ∈ rows, p.1 < B ∧ p.2 < B
  | [] => ⟨1, by decide, fun p h => by simp at h⟩
  | q :: r => by
    obtain ⟨B, h0, h⟩ := bound_of r
    refine ⟨B + (if 0 ≤ q.1 then q.1 else 0) + (if 0 ≤ q.2 then q.2 else 0) + 1, by split <;> split <;> omega, fun p hp => ?_⟩
    rcases List.mem_cons.mp hp with e | e
    · rw [e]; split <;> split <;> omega
    · have := h p e; split <;> split <;> omega
abbrev ipD : Int × Int → Dat := pairD Dat.int Dat.int
abbrev ipL (p : Int × Int) : List Int := [p.1, p.2]
theorem pairs_refs {K : PySem.W.Frag} {G : Hp} : ∀ {rows : List (Int × Int)} {vs : List V}, DenL K G (rows.map ipD) vs → ∃ ks : List (Addr × List Int), vs = ks.map (fun p => V.ref p.1) ∧ ks.map (·.2) = rows.map ipL ∧ ∀ p ∈ ks, G p.1 = some (.tup (p.2.map V.int))
  | [], vs, h => ⟨[], by rw [h.nil_inv]; rfl, rfl, fun p hp => by simp at hp⟩
  | (x, y) :: rows, vs, h => by
    obtain ⟨v, r, rfl, hv, hr⟩ := h.cons_inv
    obtain ⟨ks, e1, e2, e3⟩ := pairs_refs hr
    obtain ⟨b, us, rfl, g, dl⟩ := hv.tup_inv
    obtain ⟨u1, r1, rfl, h1, dl⟩ := dl.cons_inv
    obtain ⟨u2, r2, rfl, h2, dl⟩ := dl.cons_inv
    rw [dl.nil_inv, h1.int_inv, h2.int_inv] at g
    refine ⟨(b, [x, y]) :: ks, by rw [e1]; rfl, by rw [List.map_cons, e2]; rfl, fun p hp => ?_⟩
    rcases List.mem_cons.mp hp with e | e
    · rw [e]; exact g
    · exact e3 p e
theorem refs_pairs {K : PySem.W.Frag} {G : Hp} : ∀ {rows : List (Int × Int)} {ks : List (Addr × List Int)}, ks.map (·.2) = rows.map ipL → (∀ p ∈ ks, G p.1 = some (.tup (p.2.map V.int))) → DenL K G (rows.map ipD) (ks.map fun p => V.ref p.1)
  | [], [], _, _ => .nil
  | [], _ :: _, h, _ => by simp at h
  | _ :: _, [], h, _ => by simp at h
  | (x, y) :: rows, (b, l) :: ks, h, g => by
    rw [List.map_cons, List.map_cons] at h
    injection h with h1 h2
    have g1 := g (b, l) List.mem_cons_self
    have h1 : l = [x, y] := h1
    rw [h1] at g1
    exact .cons (den_tup (ds := [.int x, .int y]) g1 (.cons den_int (.cons den_int .nil))) (refs_pairs h2 fun p hp => g p (List.mem_cons_of_mem _ hp))
section
variable {X : Cx} {T : Bool} {τ : TEnv} {M : Mem} {P : PK'} {E : XKx} {e : Expr} {p1 p2 pos1 pos2 : Pos}
theorem ex_srtSet (hm1 : X.mg "sorted" = none) (hm2 : X.mg "set" = none) (h : EX X T e τ M (fun d M1 => ∃ rows : List (Int × Int), d = lstD ipD rows ∧ (rows.length < 64 ∧ ∀ p ∈ rows, 0 ≤ p.1 ∧ 0 ≤ p.2) ∧ P (lstD ipD (sortU rows)) M1) E) (hu : X.A.units + 64 < cLine) (hc : X.calm = true := by rfl)
    (hg1 : Gl X "sorted" := by rfl) (hg2 : Gl X "set" := by rfl) (he1 : starEach [.Call (.Name "set" p2) [e] [] pos2] X.env = (false, eval (.Call (.Name "set" p2) [e] [] pos2) X.env) :: starEach [] X.env := by rfl) (he2 : starEach [e] X.env = (false, eval e X.env) :: starEach [] X.env := by rfl)
    (hp1 : (backTo pos1 (starEach [] X.env)).any (·.1) = false := by rfl) (hp2 : (backTo pos2 (starEach [] X.env)).any (·.1) = false := by rfl) :
    EX X T (.Call (.Name "sorted" p1) [.Call (.Name "set" p2) [e] [] pos2] [] pos1) τ M P E := by
  refine .mk ?_; intro W tk σ G H hE hH Q hP hX pins s k I
  have hA : tWA X T [.Call (.Name "set" p2) [e] [] pos2] σ H (fun vs H1 => rSortedT X.K X.prog X.w vs H1 Q) := by
    refine wa_cons (Q := fun vs H1 => rSortedT X.K X.prog X.w vs H1 Q) he1 ?_
    intro pins s k I
    have hB : tWA X T [e] σ H (fun vs H1 => rSetOfT X.K X.prog X.w vs H1 (fun x H2 => tWA X T [] σ H2 fun xs H3 => rSortedT X.K X.prog X.w (x :: xs) H3 Q)) := by
      refine wa_cons (Q := fun vs H1 => rSetOfT X.K X.prog X.w vs H1 (fun x H2 => tWA X T [] σ H2 fun xs H3 => rSortedT X.K X.prog X.w (x :: xs) H3 Q)) he2 ?_
      refine h.run W tk σ G H hE hH _ ?_ hX
      intro d M1 v G1 H1 ⟨rows, ed, ⟨hl, hnn⟩, hp⟩ s1 h1 dv
      subst ed
      refine tWA_of pa_nil ?_
      obtain ⟨l, vs, rfl, ga, da⟩ := dv.lst_inv
      obtain ⟨ks, rfl, e2, e3⟩ := pairs_refs da
      have hlen : ks.length = rows.length := by have := congrArg List.length e2; simpa using this
      refine ⟨l, ks, rfl, h1.sub.seq (SqL.of ga), fun p hp => SqT.of (h1.sub _ _ (e3 p hp)), by omega, fun a L ha hL1 hL2 => ?_⟩
      refine tWA_of pa_nil ?_
      obtain ⟨B, hB0, hB⟩ := bound_of rows
      have form : ∀ p ∈ ks, ∃ r ∈ rows, p.2 = ipL r := fun p hp => by
        have : p.2 ∈ ks.map (·.2) := List.mem_map_of_mem hp
        rw [e2] at this
        obtain ⟨r, hr, e⟩ := List.mem_map.mp this
        exact ⟨r, hr, e.symm⟩
      obtain ⟨sA, hA⟩ := Stp.new (o := SetTO X.prog X.w a L) h1 ha
      refine ⟨a, L, 2, B, rfl, upd_same, fun p hp => SqT.of (hA.sub _ _ (sA.gg _ _ (e3 p (hL1 p hp)))), by decide, fun p hp => ?_, fun L' q pm nd hf pw hq => ?_⟩
      · obtain ⟨r, hr, e⟩ := form p (hL1 p hp)
        rw [e]
        refine ⟨rfl, fun m hm => ?_⟩
        have b1 := hB r hr
        have b2 := hnn r hr
        simp at hm
        rcases hm with rfl | rfl <;> omega
      · obtain ⟨sB, hBB⟩ := Stp.new (o := .lst (L'.map fun q => V.ref q.1)) hA hq
        have hin : ∀ p ∈ L', p ∈ ks := fun p hp => hL1 p (pm.mem_iff.mp hp)
        have hr2 : ∃ rows' : List (Int × Int), L'.map (·.2) = rows'.map ipL ∧ ∀ r ∈ rows', r ∈ rows := by
          clear pm nd hf pw hq sB hBB
          induction L' with
          | nil => exact ⟨[], rfl, fun r h => by simp at h⟩
          | cons p L' ih =>
            obtain ⟨rs, f1, f2⟩ := ih fun p hp => hin p (List.mem_cons_of_mem _ hp)
            obtain ⟨r, hr, e⟩ := form p (hin p List.mem_cons_self)
            exact ⟨r :: rs, by rw [List.map_cons, List.map_cons, f1, e], fun x hx => by
              rcases List.mem_cons.mp hx with g | g
              · rw [g]; exact hr
              · exact f2 x g⟩
        obtain ⟨rows', f1, f2⟩ := hr2
        have inj : ∀ x y : Int × Int, ipL x = ipL y → x = y := fun x y e => by
          injection e with a b; injection b with b _; exact Prod.ext a b
        have nd' : rows'.Nodup := by
          rw [f1] at nd
          exact List.Pairwise.of_map ipL (fun _ _ h e => h (by rw [e])) nd
        have pw' : rows'.Pairwise ltP2 := by
          have pw2 : (L'.map (·.2)).Pairwise (fun u v => TS.code B u ≤ TS.code B v) := List.pairwise_map.mpr pw
          rw [f1] at pw2
          have pw3 := List.pairwise_map.mp pw2
          refine (List.pairwise_iff_forall_sublist.mpr ?_)
          intro x y hs
          have hx : x ∈ rows' := hs.subset (by simp)
          have hy : y ∈ rows' := hs.subset (by simp)
          have ne : x ≠ y := fun e => by
            subst e
            have := nd'.sublist hs
            simp at this
          have c := List.pairwise_iff_forall_sublist.mp pw3 hs
          have bx := hB x (f2 x hx); have by' := hB y (f2 y hy)
          have nx := hnn x (f2 x hx); have ny := hnn y (f2 y hy)
          exact code_lt ⟨nx.2, bx.2⟩ ⟨ny.2, by'.2⟩ ne c
        have same : rows' = sortU rows := srt_uniq pw' srt_sortU fun x => by
          rw [mem_sortU]
          refine ⟨f2 x, fun hx => ?_⟩
          have h1 : ipL x ∈ ks.map (·.2) := by rw [e2]; exact List.mem_map_of_mem hx
          obtain ⟨p, hp, e⟩ := List.mem_map.mp h1
          have h2 : p.2 ∈ L.map (·.2) := hL2 p hp
          obtain ⟨p', hp', e'⟩ := List.mem_map.mp h2
          have h3 : p'.2 ∈ L'.map (·.2) := List.mem_map_of_mem (pm.mem_iff.mpr hp')
          rw [f1] at h3
          obtain ⟨z, hz, ez⟩ := List.mem_map.mp h3
          have : z = x := inj _ _ (by rw [ez, e', e])
          rw [← this]; exact hz
        rw [← same] at hp
        exact hP _ _ _ _ _ hp ((s1.trans sA).trans sB) hBB (den_lst upd_same (refs_pairs f1 fun p hp => sB.gg _ _ (sA.gg _ _ (e3 p (hin p hp)))))
    refine wpAny_Call_Name_kw (ld_blt I hg2 hm2 PyProof.Rows.Boot.«set» ?_ (by decide) (by decide))
    exact PyProof.Rows.callWith_type1 (thn (hB pos2 pins s k I) fun us s1 ⟨vs, H1, I1, r1, q1⟩ => cr_setOfT hc hu pins s1 σ H1 vs us _ I1 r1 q1) he2 hp2
  refine wpAny_Call_Name_kw (ld_blt I hg1 hm1 PyProof.Rows.Boot.«sorted» ?_ (by decide) (by decide))
  exact PyProof.Rows.callWith_builtin1 (thn (hA pos1 pins s k I) fun us s1 ⟨vs, H1, I1, r1, q1⟩ => cr_sortedT hc pins s1 σ H1 vs us Q I1 r1 q1) he1 hp1
end
/-! ### for x in an instance whose __iter__ gives iter(a tuple of its own) -/
def itTObj (t : Addr) : Obj := { cls := .type "tuple_iterator", data := .fields #[.ref t, .int 0 0] }
def TItO (t it : Addr) : HO := .ext fun h => h.get? it = some (itTObj t)
theorem titO_ok {P : Program} {w : World} {H : Hp} {h : Heap} {t it : Addr} (e : h.get? it = some (itTObj t)) : ObjOk P w H h it (TItO t it) := ⟨e, ⟨_, e⟩, fun h1 h2 q k => k _ q⟩
theorem call_iterT {prog : Program} {w : World} {A : Around} {E : Value → Shared → Prop} {s : Shared} {t : Addr} {items : Array Value} {Q : Value → Shared → Prop} (ht : s.heap.IsTuple t items) (h : Q (.ref s.heap.objs.size) { s with heap := s.heap.push (itTObj t) }) : wpAny (model prog w) A (call (.builtin "iter") [.ref t]) Q E s := by
  refine Calls.call_function_entry (by decide +kernel) (by decide +kernel) PySem.W.kdk_entry_iter (PySem.W.kdk_args_iter _) ?_
  unfold Builtin.«iter»
  refine wpAny_bind (m := someArgs "iter" 1 2 _) (wpAny_of_eq (a := [Value.ref t]) (by first | rfl | kernel_rfl!) ?_)
  show wpAny _ _ (pyIter (.ref t) >>= _) _ _ _
  refine wpAny_bind (wpAny_pyIter_tuple ht ?_)
  exact wpAny_pure ⟨_, rfl, h⟩
def rIterT (K : PySem.W.Frag) (n : Nat) : List V → Hp → VK → Prop := fun xs H Q => ∃ (l : Addr) (zs : List V), xs = [.ref l] ∧ SqT K H l zs ∧ ∀ it, H it = Option.none → n ≤ it → Q (.ref it) (upd H it (TItO l it))
theorem cr_iterT {X : Cx} : CallR X (.builtin "iter") (rIterT X.K X.s_0.heap.objs.size) := by
  intro pins s σ H xs us Q I r h
  obtain ⟨l, zs, rfl, hq, q⟩ := h
  cases r with
  | cons r1 rr =>
    cases rr
    cases r1
    obtain ⟨its, rv, pl, hz⟩ := I.tuple hq
    refine call_iterT (show s.heap.IsTuple l its.toArray from pl) ?_
    exact ⟨.ref s.heap.objs.size, _, I.laid (t' := s.toks) (fun b u e => Heap.get?_push_of_some _ e) (Nat.le_refl _) (titO_ok (Heap.get?_push_size _ rfl)), rfl, q _ (I.hok.fresh (Nat.le_refl _)) I.sz⟩
theorem body_itT {X : Cx} {σ : L2.St} {H : Hp} {Q : VK} {a C dx : Addr} {fs : List (Str × V)} {nf : Str} {l : Addr} {zs : List V} {p1 p2 p3 p4 : Pos} (hN : X.N[0]? = some ("self" : Str)) (hvis : Vis X.env.scope "self") (hs : σ[0]? = some (some (.ref a))) (ha : H a = some (.ins C dx fs)) (hc : Cls X.K C) (hn : NoAttr X.K C nf) (hl : fs.lookup nf = some (.ref l)) (hz : SqT X.K H l zs)
    (hg : Gl X "iter") (hm : X.mg "iter" = none) (hQ : ∀ it, H it = none → X.s_0.heap.objs.size ≤ it → Q (.ref it) (upd H it (TItO l it)))
    (hab : attributeBase (.Name "self" p2) nf X.env (eval (.Name "self" p2) X.env) = eval (.Name "self" p2) X.env := by rfl) : tW X false (.Call (.Name "iter" p1) [.Attribute (.Name "self" p2) nf p3] [] p4) σ H Q := fun pins s k I => by
  have hA : tWA X false [.Attribute (.Name "self" p2) nf p3] σ H (fun vs H1 => rIterT X.K X.s_0.heap.objs.size vs H1 Q) :=
    wa_cons rfl (v_fld hab (tW_of (pe_var hN hvis (by decide) (by decide)) ⟨_, hs, a, C, dx, fs, .ref l, rfl, ha, hc, hn, hl, tWA_of pa_nil ⟨l, zs, rfl, hz, hQ⟩⟩))
  refine wpAny_Call_Name_kw (ld_blt I hg hm (show bootBuiltins "iter" = some (.builtin "iter") from by decide +kernel) ?_ (by decide) (by decide))
  exact PyProof.Rows.callWith_builtin1 (thn (hA p4 pins s k I) fun us s1 ⟨vs, H1, I1, r1, q1⟩ => cr_iterT pins s1 σ H1 vs us Q I1 r1 q1) rfl rfl
/-- for x in o, [.. for x in o], o an instance -/
theorem ei_ownT {X : Cx} {tg e : Expr} {τ : TEnv} {M : Mem} {E : XKx} {PI' : List Dat → Mem → (Mem → Prop) → Prop} {C fa : Addr} {fd : FuncData} {qual nf : Str} {st : Stmt} {N : List Str} {p1 p2 p3 p4 p5 : Pos}
    (F : Fun X.K "__iter__" qual st fa fd) (Sc : FnScope N ["self"] (defScope st)) (hbd : defBody st = [.Return (some (.Call (.Name "iter" p1) [.Attribute (.Name "self" p2) nf p3] [] p4)) p5]) (mt : Meth X.K C "__iter__" fa) (hcl : Cls X.K C) (hna : NoAttr X.K C nf) (hm : X.mg "iter" = none) (hr : Room 1 X.A) (hb : Binds X.K fd ["self"] [])
    (hN : N[0]? = some ("self" : Str)) (hvis : Vis (defScope st) "self") (hg : ∀ cdv s H, Gl (cxOf (L2.CX X.prog X.w) X.prog X.w X.K X.mg X.base N qual (defScope st) fa cdv X.A X.stack s H (fun _ _ _ => False)) "iter")
    (h : EX X false e τ M (fun d M1 => ∃ ds, d = .obj C [nf] [.tup ds] ∧ PI' ds M1 anyM) E) : EI X tg e τ M PI' E := .mk fun W tk σ G H hE hH R hR hX pins s _ I => by
  have hO := h.run W tk σ G H hE hH (fun v H1 => ∃ a dx z zs, v = .ref a ∧ H1 a = some (.ins C dx [(nf, .ref z)]) ∧ SqT X.K H1 z zs ∧ R (Itt X.K z) H1) (fun d M1 v G1 H1 ⟨ds, ed, hp⟩ s1 h1 dv => by
    subst ed
    obtain ⟨a, dx, vs, rfl, g1, g2, g3⟩ := dv.obj_inv
    obtain ⟨u, rfl, d1⟩ := one_inv g3
    obtain ⟨z, us, rfl, gz, dz⟩ := d1.tup_inv
    exact ⟨a, dx, z, us, rfl, h1.sub _ _ g1, SqT.of (h1.sub _ _ gz), hR _ _ _ _ _ _ hp s1 h1 (walkD_tup (SqT.of gz) dz)⟩) hX
  refine thn (hO pins s tk_f I) fun v s1 ⟨x, H1, I1, r1, a, dx, z, zs, ex, ea, hz, q⟩ => ?_
  subst ex
  obtain rfl : v = Value.ref a := r1
  obtain ⟨mA, J, _⟩ := ins_get I1.hok ea
  obtain ⟨od, J, _⟩ := J.look
  obtain ⟨m, hF⟩ := I1.fr
  obtain ⟨oc, od2, kV, doc, pm, an, cdv, ct, osl, rfl, lk, hcd⟩ := F.ex
  refine PySem.W.owit_iter hF I1.ok.mod.kin J mt.1 mt.2 ?_
  have hbb := hb s1 [.ref a] I1.kIn rfl
  rw [List.append_nil] at hbb
  refine wpAny_call (codeAny_mono (run_w (CX := L2.CX X.prog X.w) (k := 0) (Q := fun v H' => ∃ it, v = .ref it ∧ H1 it = none ∧ s1.heap.objs.size ≤ it ∧ H' = upd H1 it (TItO z it)) (E := fun _ _ _ => False) (vs := [.ref a]) lk hcd Sc hr I1.env0 hbb (.cons rfl .nil) rfl ?_) fun r s' hq => ?_)
  · rw [hbd]
    refine ws_step' (s_ret ?_)
    refine body_itT hN hvis rfl ea hcl hna (by rw [List.lookup_cons, beq_self_eq_true]) hz (hg _ _ _) hm fun it h1 h2 => ⟨it, rfl, h1, h2, rfl⟩
  · cases r with
    | error e => exact (takes0 (X := X)) e s' (XE.of_call (W := fun _ _ _ _ => False) I1 (fun cls d H' h => h) hq)
    | ok fl =>
      cases fl with
      | next => exact False.elim hq
      | brk => exact False.elim hq
      | cont => exact False.elim hq
      | ret u =>
        obtain ⟨v', H', I', rv, it, ev, hfr, hge, eH⟩ := I1.after hq
        subst ev
        obtain rfl : u = Value.ref it := rv
        subst eH
        obtain ⟨ho, _⟩ := (I'.hok it _ upd_same : ObjOk X.prog X.w _ s'.heap it (TItO z it))
        have st0 : s'.heap.IsTupleIter it z 0 := ⟨_, ho, rfl, rfl⟩
        have hfin : PIE X pins σ tg R (.ref it) s' := ⟨it, [it], _, Itt X.K z, H1, rfl, by
          have := ItX.inv_drop I' (show (upd H1 it (TItO z it)) it = some (.ext _) from upd_same)
          rwa [ItX.dropH_upd hfr] at this, turn_tuple z it, st0, fun b hb => by
          have e : b = it := by simpa using hb
          subst e
          have := ItX.inv_fp I' (show (upd H1 b (TItO z b)) b = some _ from upd_same) (Nat.le_trans I1.sz hge)
          rwa [ItX.dropH_upd hfr] at this, q⟩
        show PySem.W.OwitIt _ _ _ _ (.ref it) s'
        unfold PySem.W.OwitIt
        have hT : s'.TypeIs (.ref it) "tuple_iterator" := ⟨_, ho, rfl⟩
        exact wpAny_specialOf (name := Str.ofString "__next__") hT PySem.F.slot_tuple_iterator_next.lookup hfin
end Kh

set_option Elab.async false
set_option linter.all false
set_option maxRecDepth 100000
set_option maxHeartbeats 1000000
namespace Kh
open PySem PySem.Spec L2
/-! ### [y for x in e for y in x] -/
def iFam1 (X : Cx) (scope : Scope) (tg1 iter1 : Expr) : TI := fun σ H R => ∀ (s : Shared) (H0 : Hp) (C : Addr) (cl : List (Str × Addr)) (fp : List Addr), tWI (Cx.Bk X scope s H0 C cl fp) false tg1 iter1 σ H R
theorem pi_fam {X : Cx} {scope : Scope} {tg1 iter1 : Expr} (s : Shared) (H0 : Hp) (C : Addr) (cl : List (Str × Addr)) (fp : List Addr) : PI (Cx.Bk X scope s H0 C cl fp) tg1 iter1 (iFam1 X scope tg1 iter1) := ⟨fun pins s' σ H' R I q => q s H0 C cl fp pins s' tk_f I⟩
section
variable {X : Cx} {T : Bool} {tg iter elt tg1 iter1 : Expr} {τ : TEnv} {M : Mem} {E : XKx} {pos : Pos} {vs vs1 : List Nat} {P : PK'}
theorem flat_read {scope : Scope} (hi : EI X tg iter τ M (fun ds M1 Ok => ∃ xss : List (List Dat), ds = xss.map Dat.lst ∧ xss.flatten.length ≤ sizeLine ∧ Ok M1 ∧ P (.lst xss.flatten) M1 ∧
      ∀ (ds : List Dat) (s : Shared) (H : Hp) (C : Addr) (cl : List (Str × Addr)) (fp : List Addr), GC (Cx.Bk X scope s H C cl fp) vs tg (.lst ds) (wipeT τ vs) M1 (fun τ2 M2 => M2 = M1 ∧
        (∀ (s : Shared) (H : Hp) (C : Addr) (cl : List (Str × Addr)) (fp : List Addr), EI (Cx.Bk X scope s H C cl fp) tg1 iter1 τ2 M1 (fun ds' M3 Ok => ds' = ds ∧ M3 = M1 ∧ Ok M1) E0') ∧
        ∀ (d : Dat) (s : Shared) (H : Hp) (C : Addr) (cl : List (Str × Addr)) (fp : List Addr), GC (Cx.Bk X scope s H C cl fp) vs1 tg1 d (wipeT τ2 vs1) M1 (fun τ3 M4 => M4 = M1 ∧
          ∀ (s : Shared) (H : Hp) (C : Addr) (cl : List (Str × Addr)) (fp : List Addr), EX (Cx.Bk X scope s H C cl fp) false elt τ3 M1 (fun y M5 => y = d ∧ M5 = M1) E0'))) E)
    {W : WX} (tk : Takes X W) {σ : L2.St} {G H : Hp} (hE : DenE X.K τ G σ) (hH : Hst X.K G M H) {Q : VK} (hP : CE' X.K G M H P Q) (hX : CX' X.K G M H E (fun c d H2 => W c d σ H2)) :
    tLc2 (tWI X false tg iter) (gFam X scope tg) (iFam X scope []) (iFam1 X scope tg1 iter1) (gFam X scope tg1) (iFam X scope []) (eFam X scope elt) vs vs1 σ H Q := by
  refine hi.run W tk σ G H hE hH _ ?_ hX
  intro J ds M1 G1 H1 Ok ⟨xss, ed, hz, hOk, hp, hb⟩ s1 h1 w D hD
  subst ed
  have hDH : ∀ b o, b ∉ adr M → H b = some o → b ≠ D := fun b o n e z => by rw [← z, s1.hh b o n e] at hD; cases hD
  let Pv : List Dat → Hp → Prop := fun acc H' => ∃ aV G', Hst X.K G' M1 H' ∧ Stp G M H G' M1 H' ∧ Same G1 G' ∧ H' D = some (.lst aV) ∧ DenL X.K G' acc aV ∧ G' D = none ∧ D ∉ adr M1
  have laid : ∀ {G' H' : Hp} {xs : List V}, Hst X.K G' M1 H' → G' D = none → D ∉ adr M1 → Hst X.K G' M1 (upd H' D (.lst xs)) := fun {G' H' xs} h g n =>
    ⟨fun b o e => by rw [upd_ne (fun z => by rw [z, g] at e; cases e)]; exact h.sub b o e, fun c hc => (h.mem c hc).up (Same.refl _) fun b hb o e => by rw [upd_ne (fun z => n (by rw [← z]; exact List.mem_flatMap.mpr ⟨c, hc, hb⟩))]; exact e, h.out, h.nd⟩
  have stp : ∀ {G' H' : Hp} {xs : List V}, Stp G M H G' M1 H' → Stp G M H G' M1 (upd H' D (.lst xs)) := fun {G' H' xs} s =>
    ⟨s.gg, fun b o n e => by rw [upd_ne (hDH b o n e)]; exact s.hh b o n e, s.fr, s.ad⟩
  have n0 : D ∉ adr M1 := fun z => h1.there D z hD
  have g0 : G1 D = none := h1.sub.free hD
  have len : (xss.map Dat.lst).length = xss.length := List.length_map _
  refine ⟨fun i m H' => m = xss.length - i ∧ i ≤ xss.length ∧ Pv (xss.take i).flatten H', ⟨_, rfl, Nat.zero_le _, [], G1, laid h1 g0 n0, stp s1, Same.refl _, upd_same, .nil, g0, n0⟩, ?_⟩
  rintro i m H' ⟨rfl, hle, aV, G', h', s', g', hDl, hda, hg', hn'⟩
  obtain ⟨w1, w2, w3⟩ := w G' M1 H' g' h' hOk
  rw [len] at w1 w2 w3
  have thru : ∀ {G0 H0 G2 H2 : Hp} {aV : List V} {acc : List Dat}, H0 D = some (.lst aV) → DenL X.K G0 acc aV → G0 D = none → Stp G0 M1 H0 G2 M1 H2 → H2 D = some (.lst aV) ∧ DenL X.K G2 acc aV ∧ G2 D = none := fun {G0 H0 G2 H2 aV acc} a1 a2 a3 s =>
    ⟨s.hh D _ hn' a1, a2.up s.gg, s.fr D (by rw [a1]; exact fun z => nomatch z) hn' a3⟩
  by_cases hlt : i < xss.length
  · refine .inr ⟨w1 i hlt, fun H2 => Pv (xss.take (i + 1)).flatten H2, fun H2 q => ⟨xss.length - (i + 1), by omega, rfl, hlt, q⟩, fun x H2 y => ?_⟩
    obtain ⟨G2, s2, h2, dx⟩ := w3 i x H2 hlt y
    have hd' : (xss.map Dat.lst)[i]? = some (.lst xss[i]) := by rw [List.getElem?_map, List.getElem?_eq_getElem hlt]; rfl
    have eW : DenE X.K (wipeT τ vs) G2 (wipe σ vs) := denE_wipe ((hE.up s'.gg).up s2.gg) vs
    intro sA HA CA clA fpA
    refine hb _ sA HA CA clA fpA (wipe σ vs) G2 H2 x eW h2 (dx _ hd') _ ?_
    rintro τ3 M3 G3 H3 σ3 ⟨rfl, pI, pG⟩ s3 h3 e3 l3 k3
    refine ⟨by rw [wipe_ext l3 k3, wipe_wipe], fun sB HB CB clB fpB => ?_⟩
    refine ef_nil (X := Cx.Bk X scope sB HB CB clB fpB) (P := fun b M4 => b = true ∧ M4 = M3) ⟨rfl, rfl⟩ σ3 G3 H3 e3 h3 _ ?_
    rintro bb M4 G4 H4 ⟨rfl, rfl⟩ s4 h4
    refine iteT fun sC HC CC clC fpC => ?_
    refine (pI sC HC CC clC fpC).run _ takes0 σ3 G4 H4 (e3.up s4.gg) h4 _ ?_ noX
    rintro J1 ds1 M5 G5 H5 Ok1 ⟨rfl, rfl, hOk1⟩ s5 h5 wi
    have s25 := ((s2.trans s3).trans s4).trans s5
    obtain ⟨t1, t2, t3⟩ := thru hDl hda hg' s25
    have e5 := (e3.up s4.gg).up s5.gg
    refine ⟨fun j k H' => k = (xss[i]).length - j ∧ j ≤ (xss[i]).length ∧ ∃ aV G', Hst X.K G' M5 H' ∧ Stp G M H G' M5 H' ∧ Same G5 G' ∧ H' D = some (.lst aV) ∧ DenL X.K G' ((xss.take i).flatten ++ (xss[i]).take j) aV ∧ G' D = none, ⟨_, rfl, Nat.zero_le _, aV, G5, h5, s'.trans s25, Same.refl _, t1, by rw [List.take_zero, List.append_nil]; exact t2, t3⟩, ?_⟩
    rintro j k H6 ⟨rfl, hjle, bV, G6, h6, s6, g6, hDl6, hda6, hg6⟩
    obtain ⟨u1, u2, u3⟩ := wi G6 M5 H6 g6 h6 hOk1
    by_cases hj : j < (xss[i]).length
    · refine .inr ⟨u1 j hj, fun H7 => ∃ aV G', Hst X.K G' M5 H7 ∧ Stp G M H G' M5 H7 ∧ Same G5 G' ∧ H7 D = some (.lst aV) ∧ DenL X.K G' ((xss.take i).flatten ++ (xss[i]).take (j + 1)) aV ∧ G' D = none, fun H7 q => ⟨(xss[i]).length - (j + 1), by omega, rfl, hj, q⟩, fun x7 H7 y7 => ?_⟩
      obtain ⟨G7, s7, h7, dx7⟩ := u3 j x7 H7 hj y7
      have hd7 := List.getElem?_eq_getElem hj
      have eW7 : DenE X.K (wipeT τ3 vs1) G7 (wipe σ3 vs1) := denE_wipe ((e5.up g6).up s7.gg) vs1
      intro sD HD CD clD fpD
      refine pG _ sD HD CD clD fpD (wipe σ3 vs1) G7 H7 x7 eW7 h7 (dx7 _ hd7) _ ?_
      rintro τ8 M8 G8 H8 σ8 ⟨rfl, pE⟩ s8 h8 e8 l8 k8
      refine ⟨by rw [wipe_ext l8 k8, wipe_wipe], fun sE HE CE clE fpE => ?_⟩
      refine ef_nil (X := Cx.Bk X scope sE HE CE clE fpE) (P := fun b M4 => b = true ∧ M4 = M8) ⟨rfl, rfl⟩ σ8 G8 H8 e8 h8 _ ?_
      rintro b9 M9 G9 H9 ⟨rfl, rfl⟩ s9 h9
      refine iteT fun sF HF CF clF fpF => ?_
      refine (pE sF HF CF clF fpF).run _ takes0 σ8 G9 H9 (e8.up s9.gg) h9 _ ?_ noX
      rintro y10 M10 v10 G10 H10 ⟨rfl, rfl⟩ s10 h10 d10
      have s710 := ((s7.trans s8).trans s9).trans s10
      obtain ⟨q1, q2, q3⟩ := thru hDl6 hda6 hg6 s710
      have ht : (xss[i]).take (j + 1) = (xss[i]).take j ++ [(xss[i])[j]] := by rw [List.take_succ, List.getElem?_eq_getElem hj]; rfl
      have hbl : bV.length < sizeLine := by
        rw [hda6.length, List.length_append, List.length_take]
        have e1 : xss.flatten = (xss.take i).flatten ++ ((xss[i]) ++ (xss.drop (i + 1)).flatten) := by
          rw [← List.flatten_cons, ← List.drop_eq_getElem_cons hlt, ← List.flatten_append, List.take_append_drop]
        rw [e1, List.length_append, List.length_append] at hz
        omega
      refine ⟨bV, q1, hbl, bV ++ [v10], G10, laid h10 q3 hn', stp (s6.trans s710), g6.trans s710.gg, upd_same, ?_, q3⟩
      rw [ht, ← List.append_assoc]
      exact q2.snoc d10
    · have ej : j = (xss[i]).length := by omega
      subst ej
      refine .inl ⟨u2, bV, G6, h6, s6, (g'.trans s25.gg).trans g6, hDl6, ?_, hg6, hn'⟩
      rw [List.take_length] at hda6
      have et : (xss.take (i + 1)).flatten = (xss.take i).flatten ++ xss[i] := by rw [List.take_succ, List.getElem?_eq_getElem hlt, List.flatten_append]; simp
      rw [et]; exact hda6
  · have e : i = xss.length := by omega
    subst e
    refine .inl ⟨w2, ?_⟩
    rw [List.take_length] at hda
    have up : Same G' (upd G' D (.lst aV)) := fun b o e => by rw [upd_ne (ne_of_none e hg')]; exact e
    have hF : Hst X.K (upd G' D (.lst aV)) M1 H' := ⟨fun b o e => by
      by_cases c : b = D
      · subst c; rw [upd_same] at e; cases e; exact hDl
      · rw [upd_ne c] at e; exact h'.sub b o e, fun c hc => (h'.mem c hc).up up fun _ _ _ e => e, fun b hb => by rw [upd_ne (fun z => hn' (by rw [← z]; exact hb))]; exact h'.out b hb, h'.nd⟩
    have sF : Stp G M H (upd G' D (.lst aV)) M1 H' := ⟨s'.gg.trans up, s'.hh, fun b hb n g => by
      rw [upd_ne (fun z => ?_)]
      · exact s'.fr b hb n g
      · cases q : H b with
        | none => exact hb q
        | some o => exact hDH b o n q z, s'.ad⟩
    exact hP _ _ _ _ _ hp sF hF (den_lst upd_same (hda.up up))
end
end Kh

set_option Elab.async false
set_option linter.all false
set_option maxRecDepth 100000
set_option maxHeartbeats 1000000
namespace Kh
open PySem PySem.Spec L2
open PySem.SeqAt PySem.MeetsSeq PySem.MeetsSeq2 PySem.MeetsSeq3 PySem.SeqRoads2
open PySem.AutoSeq1 (wpAny_loadPart')
/-! ### lists compared, whose items have an own == -/
section
variable {prog : Program} {w : World} {A : Around} {R : Result → Shared → Prop}
def twoL (l b : Addr) (N : Nat) (s : Shared) : Prop := ∃ (items items2 : Array Value), s.heap.IsList l items ∧ s.heap.IsList b items2 ∧ items.size = N ∧ items2.size = N
/-- at each turn the two lists are read anew -/
def ListJ (prog : Program) (w : World) (A : Around) (E : Value → Shared → Prop) (l b : Addr) (N : Nat) (I F : Nat → Shared → Prop) : Prop :=
  ∀ i s, I i s → ∃ (items items2 : Array Value), s.heap.IsList l items ∧ s.heap.IsList b items2 ∧ items.size = N ∧ items2.size = N ∧
    ∀ (h1 : i < items.size) (h2 : i < items2.size) (Q : Bool → Shared → Prop), (∀ t s'', (t = true → I (i + 1) s'') → (t = false → F i s'') → Q t s'') → wpAny (model prog w) A.in1 (eqBool items[i] items2[i]) Q E s
def lopN (ne : Bool) : Nat := if ne then 3 else 2
theorem eq_loopJ (ne : Bool) (l b : Addr) (N : Nat) (I F : Nat → Shared → Prop) (hl : ListJ prog w A (fun e s' => R (.error e) s') l b N I F)
    (fin : ∀ s, I N s → R (.ok (.ret (.bool (!ne)))) s) (hF : ∀ i s, F i s → twoL l b N s ∧ R (.ok (.ret (.bool ne))) s) (k : Nat) :
    ∀ i : Nat, N - i = k → i ≤ N → ∀ s, I i s →
      wpAny (model prog w) A.in1 (Builtin.«list.__eq__.loop» ⟨[.ref l, .ref b, rawInt i, rawInt (lopN ne)], []⟩) (GQ.FinOf prog w A R) (fun e s' => R (.error e) s') s := by
  induction k with
  | zero =>
    intro i hk hi s h
    obtain ⟨items, items2, ⟨⟨c1, dd, dt, sl⟩, hl1, hc1, n, hd1⟩, ⟨⟨c2, dd2, dt2, sl2⟩, hb1, hc2, n2, hd2⟩, hs1, hs2, _⟩ := hl _ _ h
    simp only at hc1 hd1 hc2 hd2
    subst hc1 hd1 hc2 hd2
    have hi' : i = N := by omega
    have hR : R (.ok (.ret (.bool (!ne)))) s := fin s (hi' ▸ h)
    obtain ⟨hp, g, d, tk, os⟩ := s
    cases ne with
    | false =>
      show wpAny _ _ (Builtin.«list.__eq__.loop» ⟨[.ref l, .ref b, rawInt i, rawInt 2], []⟩) _ _ _
      wp_walk using wpAny_loadPart' hl1, wpAny_loadPart' hb1
      have hi1 : items[((i : Nat) : Int).toNat]? = none := by simp; omega
      have hi2 : items2[((i : Nat) : Int).toNat]? = none := by simp; omega
      rw [hi1, hi2]
      wp_walk using wpAny_loadPart' hl1, wpAny_loadPart' hb1
      show R (.ok (.ret (.bool (items.size == items2.size)))) _
      rw [hs1, hs2]
      simpa using hR
    | true =>
      show wpAny _ _ (Builtin.«list.__eq__.loop» ⟨[.ref l, .ref b, rawInt i, rawInt 3], []⟩) _ _ _
      wp_walk using wpAny_loadPart' hl1, wpAny_loadPart' hb1
      have hi1 : items[((i : Nat) : Int).toNat]? = none := by simp; omega
      have hi2 : items2[((i : Nat) : Int).toNat]? = none := by simp; omega
      rw [hi1, hi2]
      wp_walk using wpAny_loadPart' hl1, wpAny_loadPart' hb1
      show R (.ok (.ret (.bool (items.size != items2.size)))) _
      rw [hs1, hs2]
      simpa using hR
  | succ k ih =>
    intro i hk hi s h
    obtain ⟨items, items2, ⟨⟨c1, dd, dt, sl⟩, hl1, hc1, n, hd1⟩, ⟨⟨c2, dd2, dt2, sl2⟩, hb1, hc2, n2, hd2⟩, hs1, hs2, turn⟩ := hl _ _ h
    simp only at hc1 hd1 hc2 hd2
    subst hc1 hd1 hc2 hd2
    have hlt : i < items.size := by omega
    have hlt2 : i < items2.size := by omega
    have ht := turn hlt hlt2
    obtain ⟨hp, g, d, tk, os⟩ := s
    have hi1 : items[((i : Nat) : Int).toNat]? = some items[i] := by simp [hlt]
    have hi2 : items2[((i : Nat) : Int).toNat]? = some items2[i] := by simp [hlt2]
    have hc : ((i : Int) + 1) = ((i + 1 : Nat) : Int) := by omega
    cases ne with
    | false =>
      show wpAny _ _ (Builtin.«list.__eq__.loop» ⟨[.ref l, .ref b, rawInt i, rawInt 2], []⟩) _ _ _
      wp_walk using wpAny_loadPart' hl1, wpAny_loadPart' hb1
      rw [hi1, hi2]
      refine wpAny_bind (ht _ fun t s2 hT hFl => ?_)
      cases t with
      | true =>
        have hrec := ih (i + 1) (by omega) (by omega) s2 (hT rfl)
        obtain ⟨hp2, g2, d2, tk2, os2⟩ := s2
        wp_walk
        rw [hc]
        exact ⟨plainId_quiet plain_eq_loop _, codeAny_builtin entry_eq_loop (by
          rw [Around.under_plainId plain_eq_loop _]
          exact hrec)⟩
      | false =>
        obtain ⟨⟨it3, it4, ⟨⟨c1, dd3, dt3, sl3⟩, hl2, hc1, n3, hd1⟩, ⟨⟨c2, dd4, dt4, sl4⟩, hb2, hc2, n4, hd2⟩, hs3, hs4⟩, hRf⟩ := hF _ _ (hFl rfl)
        simp only at hc1 hd1 hc2 hd2
        subst hc1 hd1 hc2 hd2
        obtain ⟨hp2, g2, d2, tk2, os2⟩ := s2
        wp_walk using wpAny_loadPart' hl2, wpAny_loadPart' hb2
        have hi3 : it3[((i : Nat) : Int).toNat]? = some (it3[i]'(by omega)) := by simp
        have hi4 : it4[((i : Nat) : Int).toNat]? = some (it4[i]'(by omega)) := by simp
        rw [hi3, hi4]
        wp_walk
        exact hRf
    | true =>
      show wpAny _ _ (Builtin.«list.__eq__.loop» ⟨[.ref l, .ref b, rawInt i, rawInt 3], []⟩) _ _ _
      wp_walk using wpAny_loadPart' hl1, wpAny_loadPart' hb1
      rw [hi1, hi2]
      refine wpAny_bind (ht _ fun t s2 hT hFl => ?_)
      cases t with
      | true =>
        have hrec := ih (i + 1) (by omega) (by omega) s2 (hT rfl)
        obtain ⟨hp2, g2, d2, tk2, os2⟩ := s2
        wp_walk
        rw [hc]
        exact ⟨plainId_quiet plain_eq_loop _, codeAny_builtin entry_eq_loop (by
          rw [Around.under_plainId plain_eq_loop _]
          exact hrec)⟩
      | false =>
        obtain ⟨⟨it3, it4, ⟨⟨c1, dd3, dt3, sl3⟩, hl2, hc1, n3, hd1⟩, ⟨⟨c2, dd4, dt4, sl4⟩, hb2, hc2, n4, hd2⟩, hs3, hs4⟩, hRf⟩ := hF _ _ (hFl rfl)
        simp only at hc1 hd1 hc2 hd2
        subst hc1 hd1 hc2 hd2
        obtain ⟨hp2, g2, d2, tk2, os2⟩ := s2
        wp_walk using wpAny_loadPart' hl2, wpAny_loadPart' hb2
        have hi3 : it3[((i : Nat) : Int).toNat]? = some (it3[i]'(by omega)) := by simp
        have hi4 : it4[((i : Nat) : Int).toNat]? = some (it4[i]'(by omega)) := by simp
        rw [hi3, hi4]
        wp_walk
        exact hRf

theorem list_eqJ (l b : Addr) (N : Nat) (I F : Nat → Shared → Prop) (hl : ListJ prog w A (fun e s' => R (.error e) s') l b N I F)
    (fin : ∀ s, I N s → R (.ok (.ret (.bool true))) s) (hF : ∀ i s, F i s → twoL l b N s ∧ R (.ok (.ret (.bool false))) s) {s : Shared} (h : I 0 s) :
    wpAny (model prog w) A.in1 (Builtin.«list.__eq__» ⟨[.ref l, .ref b], []⟩) (GQ.FinOf prog w A R) (fun e s' => R (.error e) s') s := by
  obtain ⟨items, items2, ⟨⟨c1, dd, dt, sl⟩, hl1, hc1, n, hd1⟩, ⟨⟨c2, dd2, dt2, sl2⟩, hb1, hc2, n2, hd2⟩, hs1, hs2, _⟩ := hl _ _ h
  simp only at hc1 hd1 hc2 hd2
  subst hc1 hd1 hc2 hd2
  have hrec := eq_loopJ (A := A) (R := R) false l b N I F hl fin hF _ 0 rfl (Nat.zero_le _) s h
  obtain ⟨hp, g, d, tk, os⟩ := s
  have f3 := AutoSeq1.sub_list_list
  have hne : ¬ (items.size != items2.size) = true := by simp [hs1, hs2]
  wp_walk using wpAny_loadPart' hl1, wpAny_loadPart' hb1
  exact ⟨plainId_quiet plain_eq_loop _, codeAny_builtin entry_eq_loop (by
    rw [Around.under_plainId plain_eq_loop _]
    exact hrec)⟩
theorem list_neJ (l b : Addr) (N : Nat) (I F : Nat → Shared → Prop) (hl : ListJ prog w A (fun e s' => R (.error e) s') l b N I F)
    (fin : ∀ s, I N s → R (.ok (.ret (.bool false))) s) (hF : ∀ i s, F i s → twoL l b N s ∧ R (.ok (.ret (.bool true))) s) {s : Shared} (h : I 0 s) :
    wpAny (model prog w) A.in1 (Builtin.«list.__ne__» ⟨[.ref l, .ref b], []⟩) (GQ.FinOf prog w A R) (fun e s' => R (.error e) s') s := by
  obtain ⟨items, items2, ⟨⟨c1, dd, dt, sl⟩, hl1, hc1, n, hd1⟩, ⟨⟨c2, dd2, dt2, sl2⟩, hb1, hc2, n2, hd2⟩, hs1, hs2, _⟩ := hl _ _ h
  simp only at hc1 hd1 hc2 hd2
  subst hc1 hd1 hc2 hd2
  have hrec := eq_loopJ (A := A) (R := R) true l b N I F hl fin hF _ 0 rfl (Nat.zero_le _) s h
  obtain ⟨hp, g, d, tk, os⟩ := s
  have f3 := AutoSeq1.sub_list_list
  have hne : ¬ (items.size != items2.size) = true := by simp [hs1, hs2]
  wp_walk using wpAny_loadPart' hl1, wpAny_loadPart' hb1
  exact ⟨plainId_quiet plain_eq_loop _, codeAny_builtin entry_eq_loop (by
    rw [Around.under_plainId plain_eq_loop _]
    exact hrec)⟩
/-- lists of unlike lengths -/
theorem list_eqU (l b : Addr) {items items2 : Array Value} {s : Shared} (hl : s.heap.IsList l items) (hb : s.heap.IsList b items2) (hs : items.size ≠ items2.size) (hR : R (.ok (.ret (.bool false))) s) :
    wpAny (model prog w) A.in1 (Builtin.«list.__eq__» ⟨[.ref l, .ref b], []⟩) (GQ.FinOf prog w A R) (fun e s' => R (.error e) s') s := by
  obtain ⟨⟨c1, dd, dt, sl⟩, hl1, hc1, n, hd1⟩ := hl
  obtain ⟨⟨c2, dd2, dt2, sl2⟩, hb1, hc2, n2, hd2⟩ := hb
  simp only at hc1 hd1 hc2 hd2
  subst hc1 hd1 hc2 hd2
  obtain ⟨hp, g, d, tk, os⟩ := s
  have f3 := AutoSeq1.sub_list_list
  have hne : (items.size != items2.size) = true := by simp [hs]
  wp_walk using wpAny_loadPart' hl1, wpAny_loadPart' hb1
  exact hR
theorem list_neU (l b : Addr) {items items2 : Array Value} {s : Shared} (hl : s.heap.IsList l items) (hb : s.heap.IsList b items2) (hs : items.size ≠ items2.size) (hR : R (.ok (.ret (.bool true))) s) :
    wpAny (model prog w) A.in1 (Builtin.«list.__ne__» ⟨[.ref l, .ref b], []⟩) (GQ.FinOf prog w A R) (fun e s' => R (.error e) s') s := by
  obtain ⟨⟨c1, dd, dt, sl⟩, hl1, hc1, n, hd1⟩ := hl
  obtain ⟨⟨c2, dd2, dt2, sl2⟩, hb1, hc2, n2, hd2⟩ := hb
  simp only at hc1 hd1 hc2 hd2
  subst hc1 hd1 hc2 hd2
  obtain ⟨hp, g, d, tk, os⟩ := s
  have f3 := AutoSeq1.sub_list_list
  have hne : (items.size != items2.size) = true := by simp [hs]
  wp_walk using wpAny_loadPart' hl1, wpAny_loadPart' hb1
  exact hR
end
section
variable {prog : Program} {w : World} {A : Around} {E : Value → Shared → Prop} {s : Shared}
theorem rc_listJ {ne : Bool} {l b : Addr} {N : Nat} {Q : Value → Shared → Prop} (hu : A.units < cLine) (I F : Nat → Shared → Prop) (hl : ListJ prog w A E l b N I F)
    (fin : ∀ s, I N s → Q (.bool (!ne)) s) (hF : ∀ i s, F i s → twoL l b N s ∧ Q (.bool ne) s) (h : I 0 s) : wpAny (model prog w) A (richCompare (if ne then .NotEq else .Eq) (.ref l) (.ref b)) Q E s := by
  obtain ⟨items, items2, ⟨o1, ho1, hc1, _⟩, ⟨o2, ho2, hc2, _⟩, _, _, _⟩ := hl _ _ h
  cases ne with
  | false =>
    refine wpAny_richCompare_same_room (op := .Eq) ⟨_, ho1, hc1⟩ ⟨_, ho2, hc2⟩ PySem.F.slot_list_eq (GQ.call_here PySem.F.slot_list_eq ⟨_, ho1, hc1⟩ PySem.F.entry_list_eq (PySem.F.args_list_eq_2 _ _) ?_) hu
    exact list_eqJ (R := wants (fun v s' => v ≠ .notImplemented ∧ Q v s') E) l b N I F hl (fun s' q => ⟨(fun x => nomatch x), fin s' q⟩) (fun i s' q => ⟨(hF i s' q).1, (fun x => nomatch x), (hF i s' q).2⟩) h
  | true =>
    refine wpAny_richCompare_same_room (op := .NotEq) ⟨_, ho1, hc1⟩ ⟨_, ho2, hc2⟩ PySem.F.slot_list_ne (GQ.call_here PySem.F.slot_list_ne ⟨_, ho1, hc1⟩ PySem.F.entry_list_ne (PySem.F.args_list_ne_2 _ _) ?_) hu
    exact list_neJ (R := wants (fun v s' => v ≠ .notImplemented ∧ Q v s') E) l b N I F hl (fun s' q => ⟨(fun x => nomatch x), fin s' q⟩) (fun i s' q => ⟨(hF i s' q).1, (fun x => nomatch x), (hF i s' q).2⟩) h
theorem rc_listU {ne : Bool} {l b : Addr} {items items2 : Array Value} {Q : Value → Shared → Prop} (hu : A.units < cLine) (hl : s.heap.IsList l items) (hb : s.heap.IsList b items2) (hs : items.size ≠ items2.size) (hQ : Q (.bool ne) s) :
    wpAny (model prog w) A (richCompare (if ne then .NotEq else .Eq) (.ref l) (.ref b)) Q E s := by
  obtain ⟨o1, ho1, hc1, _⟩ := id hl
  obtain ⟨o2, ho2, hc2, _⟩ := id hb
  cases ne with
  | false =>
    refine wpAny_richCompare_same_room (op := .Eq) ⟨_, ho1, hc1⟩ ⟨_, ho2, hc2⟩ PySem.F.slot_list_eq (GQ.call_here PySem.F.slot_list_eq ⟨_, ho1, hc1⟩ PySem.F.entry_list_eq (PySem.F.args_list_eq_2 _ _) ?_) hu
    exact list_eqU (R := wants (fun v s' => v ≠ .notImplemented ∧ Q v s') E) l b hl hb hs ⟨(fun x => nomatch x), hQ⟩
  | true =>
    refine wpAny_richCompare_same_room (op := .NotEq) ⟨_, ho1, hc1⟩ ⟨_, ho2, hc2⟩ PySem.F.slot_list_ne (GQ.call_here PySem.F.slot_list_ne ⟨_, ho1, hc1⟩ PySem.F.entry_list_ne (PySem.F.args_list_ne_2 _ _) ?_) hu
    exact list_neU (R := wants (fun v s' => v ≠ .notImplemented ∧ Q v s') E) l b hl hb hs ⟨(fun x => nomatch x), hQ⟩
end
/-- what a list's == answers, item by item -/
def eqVL {α : Type} (me : α → α → Res Bool) (xs ys : List α) : Res Bool := if xs.length = ys.length then eqV me xs ys else .ok false
/-- items of a kind with an own ==, as they are compared inside a builtin -/
structure OwnEq (X : Cx) (α : Type) (f : α → Dat) (me : α → α → Res Bool) : Prop where
  el : ∀ x y, EqO X.prog X.w X.K X.mg X.base X.A.in1 (f x) (f y) (me x y)
  isR : ∀ x, isR (f x) = true
  inj : ∀ (G : Hp) x y a, Den X.K G (f x) (.ref a) → Den X.K G (f y) (.ref a) → x = y
  self : ∀ x, me x x = .ok true
section
variable {X : Cx} {T : Bool} {M : Mem} {P : PK'} {α : Type} {f : α → Dat} {me : α → α → Res Bool} {Q1 : Bool → Prop} {E1 : Er → Prop}
/-- one item's == inside a builtin -/
theorem eqItem (O : OwnEq X α f me) {pins : List (Addr × Obj)} {σ : L2.St} {G' : Hp} {H' : Hp} {s' : Shared} {x y : α} {v1 v2 : V} {u1 u2 : Value} (I' : Inv X pins σ H' s') (hst : Hst X.K G' M H') (d1 : Den X.K G' (f x) v1) (d2 : Den X.K G' (f y) v2) (r1 : RelV v1 u1) (r2 : RelV v2 u2)
    {Qo : Bool → Prop} (hq : (me x y).Out Qo (fun _ => False)) {Qb : Bool → Shared → Prop} (hQb : ∀ t s2 H2 G2, Qo t → Inv X pins σ H2 s2 → Stp G' M H' G2 M H2 → Hst X.K G2 M H2 → Qb t s2) : wpAny (model X.prog X.w) X.A.in1 (eqBool u1 u2) Qb X.xe s' := by
  obtain ⟨a1, rfl⟩ := den_isR (O.isR _) d1
  obtain ⟨a2, rfl⟩ := den_isR (O.isR _) d2
  obtain rfl : u1 = Value.ref a1 := r1
  obtain rfl : u2 = Value.ref a2 := r2
  by_cases e : a1 = a2
  · subst e
    obtain rfl := O.inj _ _ _ _ d1 d2
    rw [O.self x] at hq
    exact EqAt.same (A := X.A.in1) (s := s') (.ref a1) X.prog X.w _ Qb (hQb true s' H' G' hq I' Stp.refl hst)
  · unfold eqBool
    refine wpAny_holding ?_
    refine wpAny_ite_split (fun hab => absurd (by have := eq_of_beq hab; injection this) e) (fun _ => ?_)
    obtain ⟨C, fa, fd, k, ps, S, t, FF, hrm, mt, _, _, hb, hx, ty, hn, hS⟩ := O.el x y
    obtain ⟨a', dxa, fs, ea', ea, _⟩ := (hx M).get hst d1
    cases ea'
    obtain ⟨mA, J, _⟩ := ins_get I'.hok ea
    obtain ⟨od, J, _⟩ := J.look
    obtain ⟨m, hF⟩ := I'.fr
    have ry : RelV (.ref a2) (Value.ref a2) := rfl
    obtain ⟨Pr, Z, pz, _⟩ := kit_of I' ry (tyD_ok (ty M) hst d2)
    refine wpAny_bind ?_
    have hsp : toSp X.K S [.ref a1, .ref a2] H' (fun z H2 => ∃ t, z = .bl t ∧ ∃ G2, Stp G' M H' G2 M H2 ∧ Hst X.K G2 M H2 ∧ Qo t) (fun _ _ _ => False) :=
      ap_toSp (ap_all (hS M (UpP fun d M2 => ∃ t, d = .bl t ∧ M2 = M ∧ Qo t) (UpP E0') (out_mono hq (fun t q => UpP.mk ⟨t, rfl, rfl, q⟩) fun _ z => z))) (.cons d1 (.cons d2 .nil)) hst
        (fun d M2 z G2 H2 ⟨t, ed, em, hp⟩ s2 h2 dz => by subst ed; subst em; exact ⟨t, dz.bl_inv, G2, s2, h2, hp⟩) noX
    refine PySem.W.cmp_K (op := .Eq) (tb := t) hrm.units0 hF I'.ok.mod.kin J (Z.ty _ _ I'.kIn pz) hn mt.1 mt.2 ?_
    refine wpAny_mono (run_dA (W := fun _ _ _ _ => False) (us := [.ref a1, .ref a2]) (vs := [.ref a1, .ref a2]) FF (hrm.mono (Nat.le_succ _)) I'.env0.in1 hb takes0 I' (.cons rfl (.cons rfl .nil)) hsp) (fun r s2 q => ?_) fun _ _ z => z
    obtain ⟨z, H2, I2, rz, t2, ez, G2, st2, hst2, q⟩ := q
    subst ez
    cases rz
    exact wpAny_truthy_bool (hQb t2 s2 H2 G2 q I2 st2 hst2)
theorem LsD.up {K : PySem.W.Frag} {G H G' H' : Hp} {M : Mem} {d : Dat} {xs : List Dat} {a : Addr} (h : LsD M d xs) (hH : Hst K G M H) (hH' : Hst K G' M H') (s : Stp G M H G' M H') (dv : Den K G d (.ref a)) : ∃ vs, H' a = some (.lst vs) ∧ DenL K G' xs vs := by
  obtain ⟨a', vs, e, g1, g2⟩ := h.get hH' (dv.up s.gg)
  cases e
  exact ⟨vs, g1, g2⟩
theorem o_cmpLO (ne : Bool) (O : OwnEq X α f me) {x y : Dat} {xs ys : List α} (lx : LsD M x (xs.map f)) (ly : LsD M y (ys.map f)) (hu : X.A.units + 64 < cLine) (h : (eqVL me xs ys).ne.Out Q1 E1) (hk : ∀ b, Q1 b → P (.bl (if ne then !b else b)) M) :
    OP X T (compareOp (if ne then .NotEq else .Eq)) x y M P := by
  intro G H v u hH dx dy Q hQ pins s σ v' u' _ I r r'
  obtain ⟨a, vs, rfl, ga, da⟩ := lx.get hH dx
  obtain ⟨b, us, rfl, gb, db⟩ := ly.get hH dy
  cases r; cases r'
  obtain ⟨ws, r1, p1, _⟩ := I.list (SqL.of ga)
  obtain ⟨zs, r2, p2, _⟩ := I.list (SqL.of gb)
  have hw : ws.length = xs.length := by rw [← r1.length, da.length, List.length_map]
  have hz : zs.length = ys.length := by rw [← r2.length, db.length, List.length_map]
  have h : (eqVL me xs ys).Out Q1 (fun _ => False) := ne_out h
  unfold eqVL at h
  have e2 : compareOp (if ne then .NotEq else .Eq) (Value.ref a) (.ref b) = richCompare (if ne then .NotEq else .Eq) (Value.ref a) (.ref b) := by cases ne <;> rfl
  rw [e2]
  by_cases hlen : xs.length = ys.length
  · rw [if_pos hlen] at h
    refine rc_listJ (N := xs.length) (by omega) (fun j s' => j ≤ xs.length ∧ ∃ H' G', Inv X pins σ H' s' ∧ Stp G M H G' M H' ∧ Hst X.K G' M H' ∧ (eqV me (xs.drop j) (ys.drop j)).Out Q1 (fun _ => False))
      (fun j s' => ∃ H' G', Inv X pins σ H' s' ∧ Stp G M H G' M H' ∧ Hst X.K G' M H' ∧ Q1 false) ?_ ?_ ?_ ⟨Nat.zero_le _, H, G, I, Stp.refl, hH, h⟩
    · rintro j s' ⟨hj, H', G', I', st, hst, hq⟩
      obtain ⟨vs', ga', da'⟩ := lx.up hH hst st dx
      obtain ⟨us', gb', db'⟩ := ly.up hH hst st dy
      obtain ⟨ws', r1', p1', _⟩ := I'.list (SqL.of ga')
      obtain ⟨zs', r2', p2', _⟩ := I'.list (SqL.of gb')
      have hw' : ws'.length = xs.length := by rw [← r1'.length, da'.length, List.length_map]
      have hz' : zs'.length = xs.length := by rw [← r2'.length, db'.length, List.length_map, hlen]
      refine ⟨_, _, p1'.isList, p2'.isList, by simpa using hw', by simpa using hz', fun h1 h2 Qb hQb => ?_⟩
      have j1 : j < xs.length := by rw [← hw']; simpa using h1
      have j2 : j < ys.length := by omega
      rw [List.drop_eq_getElem_cons j1, List.drop_eq_getElem_cons j2] at hq
      obtain ⟨v1, e1, d1⟩ := da'.get (show (xs.map f)[j]? = some (f xs[j]) by rw [List.getElem?_map, List.getElem?_eq_getElem j1]; rfl)
      obtain ⟨v2, e2, d2⟩ := db'.get (show (ys.map f)[j]? = some (f ys[j]) by rw [List.getElem?_map, List.getElem?_eq_getElem j2]; rfl)
      obtain ⟨u1, f1, q1⟩ := r1'.get e1
      obtain ⟨u2, f2, q2⟩ := r2'.get e2
      have w1 : ws'.toArray[j] = u1 := by
        rw [List.getElem?_eq_getElem (by rw [hw']; exact j1)] at f1
        simpa using f1
      have w2 : zs'.toArray[j] = u2 := by
        rw [List.getElem?_eq_getElem (by rw [hz']; exact j1)] at f2
        simpa using f2
      rw [w1, w2]
      refine eqItem O I' hst d1 d2 q1 q2 (ob hq) fun t s2 H2 G2 q I2 st2 hst2 => hQb t s2 (fun e => ?_) (fun e => ?_)
      · subst e; exact ⟨j1, H2, G2, I2, st.trans st2, hst2, q⟩
      · subst e; exact ⟨H2, G2, I2, st.trans st2, hst2, q⟩
    · rintro s' ⟨hj, H', G', I', st, hst, hq⟩
      rw [List.drop_length, hlen, List.drop_length] at hq
      have hq : Q1 true := hq
      refine ⟨.bl (!ne), H', I', rfl, hQ _ _ _ _ _ ?_ st hst den_bl⟩
      have := hk _ hq
      cases ne <;> exact this
    · rintro j s' ⟨H', G', I', st, hst, hq⟩
      obtain ⟨vs', ga', da'⟩ := lx.up hH hst st dx
      obtain ⟨us', gb', db'⟩ := ly.up hH hst st dy
      obtain ⟨ws', r1', p1', _⟩ := I'.list (SqL.of ga')
      obtain ⟨zs', r2', p2', _⟩ := I'.list (SqL.of gb')
      have hw' : ws'.length = xs.length := by rw [← r1'.length, da'.length, List.length_map]
      have hz' : zs'.length = xs.length := by rw [← r2'.length, db'.length, List.length_map, hlen]
      refine ⟨⟨_, _, p1'.isList, p2'.isList, by simpa using hw', by simpa using hz'⟩, .bl ne, H', I', rfl, hQ _ _ _ _ _ ?_ st hst den_bl⟩
      have := hk _ hq
      cases ne <;> exact this
  · rw [if_neg hlen] at h
    refine rc_listU (by omega) p1.isList p2.isList (by simpa [hw, hz] using hlen) ⟨.bl ne, H, I, rfl, hQ _ _ _ _ _ ?_ Stp.refl hH den_bl⟩
    have := hk _ h
    cases ne <;> exact this
theorem r_eqLO (O : OwnEq X α f me) {x y : Dat} {xs ys : List α} (hu : X.A.units + 64 < cLine) (lx : LsD M x (xs.map f)) (ly : LsD M y (ys.map f)) (h : (eqVL me xs ys).ne.Out Q1 E1) (hk : ∀ b, Q1 b → P (.bl b) M) : OP X T (compareOp .Eq) x y M P := o_cmpLO false O lx ly hu h hk
theorem r_neLO (O : OwnEq X α f me) {x y : Dat} {xs ys : List α} (hu : X.A.units + 64 < cLine) (lx : LsD M x (xs.map f)) (ly : LsD M y (ys.map f)) (h : (eqVL me xs ys).ne.Out Q1 E1) (hk : ∀ b, Q1 b → P (.bl (!b)) M) : OP X T (compareOp .NotEq) x y M P := o_cmpLO true O lx ly hu h hk
end
end Kh

set_option Elab.async false
set_option linter.all false
set_option maxRecDepth 100000
set_option maxHeartbeats 1000000
namespace PySem.W
open Lean Elab Tactic Meta PySem PySem.Calls PyProof.Rows
/-! ### own operators with a right side of any other type -/
/-- a class without number slots of this name, along its order -/
def noNum (K : Frag) (C : Addr) (nm : String) : Bool := (clsIn K C).any fun cd => cd.mro.all fun c => findIn K c (PySem.dunder nm) == some none && findIn K c (dunderR nm) == some none
section
variable {prog : Program} {w : World} {M : Model} {A : Around} {E : Value → Shared → Prop} {s : Shared} {K : Frag} {x C L f : Addr} {h₀ : Heap} {m : Str → Option Value} {ox : Obj} {od : Option Obj} {nm T : String}
theorem anyM_false {α : Type} {p : α → Sem Bool} {h : Heap} : ∀ {l : List α}, (∀ c ∈ l, Looks M h (p c) false) → Looks M h (l.anyM p) false
  | [], _ => by
    intro A Q E s k q
    exact wpAny_pure q
  | c :: l, H => by
    intro A Q E s k q
    rw [List.anyM_cons]
    refine wpAny_bind (H c List.mem_cons_self A _ E s k ?_)
    simp only [Bool.false_eq_true, if_false]
    exact anyM_false (fun d hd => H d (List.mem_cons_of_mem _ hd)) A _ E s k q
theorem fills_none {h : Heap} (X : K.In h) (hn : noNum K C nm = true) : Looks M h (fillsNumberSlot (.ref C) nm) false := by
  unfold noNum at hn
  obtain ⟨cd, hcd, hm⟩ : ∃ cd, clsIn K C = some cd ∧ (cd.mro.all fun c => findIn K c (PySem.dunder nm) == some none && findIn K c (dunderR nm) == some none) = true := by
    cases q : clsIn K C with
    | none => rw [q] at hn; cases hn
    | some cd => rw [q] at hn; exact ⟨cd, rfl, hn⟩
  have hall := List.all_eq_true.mp hm
  intro A Q E s k q
  unfold fillsNumberSlot
  refine wpAny_bind ((looks_clsIn X hcd).andThen (f := fun cd => pure cd.mro) .now A _ E s k ?_)
  refine anyM_false (h := h) (fun c hc => ?_) A _ E s k q
  have := hall c hc
  rw [Bool.and_eq_true] at this
  have f1 := beq_iff_eq.mp this.1
  have f2 := beq_iff_eq.mp this.2
  intro A Q E s k q
  have X' : K.In s.heap := X.keeps k
  obtain ⟨hh, g, d, tt, os⟩ := s
  have L1 : Looks M hh (typeLookup c (PySem.dunder nm)) none := looks_findIn X' f1
  have L2 : Looks M hh (typeLookup c (dunderR nm)) none := looks_findIn X' f2
  cases c with
  | type T =>
    repeat lk
    exact q
  | _ =>
    simp only [List.anyM_cons, List.anyM_nil]
    repeat lk
    exact q
theorem binop_R {op : Operator} {b tb : Value} {right : Bool} {Q : Value → Shared → Prop} (F : Fr h₀ L s.heap m) (X₀ : K.In h₀) (I : InstAt s.heap x ox C od) (hb : Looks (model prog w) s.heap (typeOf b) tb) (hne : (Value.ref C == tb) = false) (hc : selfFirst K C = true)
    (hs : findIn K (.ref C) (PySem.dunder op.info.2) = some (some (.ref f))) (hf : isFn K (.ref f) = true)
    (h4 : Looks (model prog w) s.heap (fillsNumberSlot tb op.info.2) right)
    (h5 : right = true → ∃ rc ro T, findIn K (.ref C) (dunderR op.info.2) = some rc ∧ (rc = none ∨ ∃ g : Addr, rc = some (.ref g)) ∧ tb = .type T ∧ subIn K tb (.ref C) = some false ∧ findIn K tb (dunderR op.info.2) = some ro)
    (h : wpAny (model prog w) A (call (.ref f) [.ref x, b]) (CmpBack Q) E s) : wpAny (model prog w) A (binaryOp op (.ref x) b) Q E s := by
  have X := X₀.keeps F.keep
  obtain ⟨cd, rest, hcd, hm⟩ := ksp_first hc
  rcases hi : op.info with ⟨sym, nm'⟩
  rw [hi] at hs h4 h5
  dsimp only at hs h4 h5
  have one := ksp_try X I hs hf h
  obtain ⟨hh, g, d, tt, os⟩ := s
  have L1 : Looks (model prog w) hh (typeOf (.ref x)) (.ref C) := I.type
  have L2 : Looks (model prog w) hh (typeOf b) tb := hb
  have L3 : Looks (model prog w) hh (fillsNumberSlot (.ref C) nm') true := fills_K X hcd hm hs
  have L4 : Looks (model prog w) hh (fillsNumberSlot tb nm') right := h4
  simp only [binaryOp, hi]
  refine wpAny_holding (wpAny_bind ?_)
  unfold binaryOp1
  refine wpAny_bind (L1.at (wpAny_bind (L2.at (wpAny_bind (L3.at ?_)))))
  simp only [hne, Bool.false_eq_true, if_false]
  cases right with
  | false =>
    ksp_lk
    refine wpAny_mono one (fun r s' hr' => ?_) fun _ _ e => e
    obtain ⟨v, rfl, hq⟩ := hr'
    ksp_lk
    exact hq
  | true =>
    obtain ⟨rc, ro, T, hr, hp, rfl, hsub, h2⟩ := h5 rfl
    have L5 : Looks (model prog w) hh (isSubtype (.type T) (.ref C)) false := looks_subIn X hsub
    have L6 : Looks (model prog w) hh (numberSlotInPython (.ref C) nm') true := ksp_inPy X hs hr hp
    have L7 : Looks (model prog w) hh (numberSlotInPython (.type T) nm') false := Looks.of_pure rfl
    have L8 : Looks (model prog w) hh (typeLookup (.type T) (dunderR nm')) ro := looks_findIn X h2
    ksp_lk
    refine wpAny_mono one (fun r s' hr' => ?_) fun _ _ e => e
    obtain ⟨v, rfl, hq⟩ := hr'
    ksp_lk
    exact hq
end
end PySem.W
namespace Kh
open PySem PySem.Spec L2
/-- what the operators of the class at C meet on their right side -/
structure RightA (K : PySem.W.Frag) (C fa : Addr) (op : Operator) (cl : OK → Addr × List Str) (pr : OK → Bool) : Prop where
  first : PySem.W.selfFirst K C = true
  fnd : PySem.W.findIn K (.ref C) (PySem.dunder op.info.2) = some (some (.ref fa))
  fn : PySem.W.isFn K (.ref fa) = true
  rr : PySem.W.findIn K (.ref C) (dunderR op.info.2) = some none
  base : ∀ T ∈ baseT, (∃ fo, PySem.W.findIn K (.type T) (PySem.dunder op.info.2) = some fo) ∧ (∃ ro, PySem.W.findIn K (.type T) (dunderR op.info.2) = some ro) ∧ PySem.W.subIn K (.type T) (.ref C) = some false
  own : ∀ k, pr k = true → ICls K (cl k).1 ∧ ((cl k).1 = C ∨ PySem.W.noNum K (cl k).1 op.info.2 = true)
/-- the type of a value of any kind is known -/
def kndA (pr : OK → Bool) (a : Any) : Bool := match tyA a with
  | some _ => true
  | none => match okA a with
    | some k => pr k
    | none => false
section
variable {X : Cx} {T : Bool} {τ : TEnv} {M : Mem} {P : PK'} {E : XKx} {a b e : Expr} {pos : Pos} {k : Nat} {fa C : Addr} {fd : FuncData} {ps : List Str} {S : Spc} {W : WX} {op : Operator} {cl : OK → Addr × List Str} {pr : OK → Bool}
/-- x op y, x an instance of the class at C, y of any kind; errors may come -/
theorem ex_binOwnA (F : FnD X.prog X.w X.K X.mg X.base k fa fd ps S) (hr : Room k X.A) (hb : Binds X.K fd ps []) (RA : RightA X.K C fa op cl pr)
    (h : EX X T a τ M (fun x M1 => EX X T b τ M1 (fun y M2 => ∃ v, y = anyD cl v ∧ kndA pr v = true ∧ IsI C "__eq__" M2 x ∧ S [x, y] M2 (UpP fun d M3 => isR d = true ∧ P d M3) (UpP E)) E) E) : EX X T (.BinOp a op b pos) τ M P E := by
  refine .mk ?_; intro W tk σ G H hE hH Q hP hX pins s k0 I
  have hA := h.run W tk σ G H hE hH (fun x H1 => tW X T b σ H1 fun y H2 => ∃ c dx fs, x = .ref c ∧ H2 c = some (.ins C dx fs) ∧ (∃ t, TyX X.K H2 y t ∧ ((∃ u ∈ baseT, t = .type u) ∨ t = .ref C ∨ ∃ D, t = .ref D ∧ D ≠ C ∧ PySem.W.noNum X.K D op.info.2 = true)) ∧
      toSp X.K S [x, y] H2 (fun z H3 => (∃ c, z = .ref c) ∧ Q z H3) (fun c d H3 => W c d σ H3))
    (fun x M1 v G1 H1 hb s1 h1 dx => hb.run W tk σ G1 H1 (hE.up s1.gg) h1 _ (fun y M2 u G2 H2 ⟨v, ey, hk, hi, hS⟩ s2 h2 dy => by
      obtain ⟨c, dxa, fs, e1, e2, _⟩ := hi.get h2 (dx.up s2.gg)
      refine ⟨c, dxa, fs, e1, e2, ?_, ap_toSp (ap_all hS) (.cons (dx.up s2.gg) (.cons dy .nil)) h2 (fun d M3 z G3 H3 ⟨hd, hp⟩ s3 h3 dz => ⟨den_isR hd dz, hP _ _ _ _ _ hp ((s1.trans s2).trans s3) h3 dz⟩) (hX.step (s1.trans s2))⟩
      subst ey
      unfold kndA at hk
      cases e3 : tyA v with
      | some t => exact ⟨_, tyD_ok (tyA_D e3) h2 dy, .inl ⟨t, tyA_mem e3, rfl⟩⟩
      | none =>
        rw [e3] at hk
        cases e4 : okA v with
        | none => rw [e4] at hk; cases hk
        | some q =>
          rw [e4] at hk
          obtain ⟨ic, hc⟩ := RA.own q hk
          refine ⟨_, tyD_ok (okA_D' ic e4) h2 dy, .inr ?_⟩
          by_cases ec : (cl q).1 = C
          · exact .inl (by rw [ec])
          · exact .inr ⟨_, rfl, ec, hc.resolve_left ec⟩) (hX.step s1)) hX
  refine wpAny_BinOp (thnT k0 (hA pins s k0 I) fun v s1 k1 ⟨x, H1, I1, r1, q1⟩ => thn (q1 pins s1 k1 I1) fun u s2 ⟨y, H2, I2, r2, c, dx, fs, ex, ea, ⟨t, tx, ht⟩, q2⟩ => ?_)
  subst ex
  obtain rfl : v = Value.ref c := r1
  obtain ⟨mA, J, _⟩ := ins_get I2.hok ea
  obtain ⟨od, J, _⟩ := J.look
  obtain ⟨m, hF⟩ := I2.fr
  obtain ⟨Pr, Z, pz, _⟩ := kit_of I2 r2 tx
  have hbk := Z.ty (model X.prog X.w) _ I2.kIn pz
  have hrun : wpAny (model X.prog X.w) X.A (call (.ref fa) [.ref c, u]) (PySem.W.CmpBack (EP X pins σ Q)) X.xe s2 :=
    wpAny_mono (run_d (dsv := []) (dvs := []) (us := [.ref c, u]) (vs := [.ref c, y]) F hr hb .nil tk I2 (.cons rfl (.cons r2 .nil)) (by rw [List.append_nil]; exact q2)) (fun r s' q => by
      obtain ⟨z, H', I', rz, ⟨d, rfl⟩, q⟩ := q
      obtain rfl : r = Value.ref d := rz
      exact ⟨.ref d, H', I', rfl, q⟩) fun _ _ z => z
  rcases ht with ⟨u', hu', rfl⟩ | rfl | ⟨D, rfl, hD, hn⟩
  · obtain ⟨⟨fo, h1⟩, ⟨ro, h2⟩, h3⟩ := RA.base u' hu'
    exact PySem.W.binop_R hF I2.ok.mod.kin J hbk (Bool.eq_false_iff.mpr fun q => by cases beq_iff_eq.mp q) RA.first RA.fnd RA.fn (PySem.W.ksp_fillsT I2.kIn h1 h2) (fun _ => ⟨none, ro, u', RA.rr, .inl rfl, rfl, h3, h2⟩) hrun
  · exact PySem.W.binop_K hF I2.ok.mod.kin J hbk RA.first RA.fnd RA.fn hrun
  · exact PySem.W.binop_R (right := false) hF I2.ok.mod.kin J hbk (Bool.eq_false_iff.mpr fun q => hD (by have := beq_iff_eq.mp q; injection this with e; exact e.symm)) RA.first RA.fnd RA.fn (PySem.W.fills_none I2.kIn hn) (fun z => nomatch z) hrun
end
end Kh

set_option Elab.async false
set_option linter.all false
set_option maxRecDepth 100000
set_option maxHeartbeats 1000000
namespace Kh
open PySem PySem.Spec L2
/-! ### a comprehension's list as a cell -/
section
variable {X : Cx} {T : Bool} {tg iter elt e a b c : Expr} {τ : TEnv} {M : Mem} {E : XKx} {pos p : Pos} {vs : List Nat} {P : PK'}
theorem lc_readC {scope : Scope} (hi : EI X tg iter τ M (fun ds M1 Ok => ds.length ≤ sizeLine ∧ ∃ I : Nat → List Dat → Mem → Prop, I 0 [] M1 ∧ (∀ i acc M, I i acc M → Ok M) ∧
      (∀ i d acc M, ds[i]? = some d → I i acc M → ∀ (s : Shared) (H : Hp) (C : Addr) (cl : List (Str × Addr)) (fp : List Addr), GC (Cx.Bk X scope s H C cl fp) vs tg d (wipeT τ vs) M (fun τ2 M2 => ∀ (s : Shared) (H : Hp) (C : Addr) (cl : List (Str × Addr)) (fp : List Addr),
        EFs (Cx.Bk X scope s H C cl fp) ifs τ2 M2 (fun b M3 => (b = true → ∀ (s : Shared) (H : Hp) (C : Addr) (cl : List (Str × Addr)) (fp : List Addr), EX (Cx.Bk X scope s H C cl fp) false elt τ2 M3 (fun y M4 => I (i + 1) (acc ++ [y]) M4) E0') ∧ (b = false → I (i + 1) acc M3)))) ∧
      (∀ acc M, I ds.length acc M → ∀ q, P (.raw (.ref q)) ((q, .lst acc) :: M))) E)
    {W : WX} (tk : Takes X W) {σ : L2.St} {G H : Hp} (hE : DenE X.K τ G σ) (hH : Hst X.K G M H) {Q : VK} (hP : CE' X.K G M H P Q) (hX : CX' X.K G M H E (fun c d H2 => W c d σ H2)) :
    tLc (tWI X false tg iter) (gFam X scope tg) (iFam X scope ifs) (eFam X scope elt) vs σ H Q := by
  refine hi.run W tk σ G H hE hH _ ?_ hX
  intro J ds M1 G1 H1 Ok ⟨hz, I, h0, hOk, hb, hd⟩ s1 h1 w D hD
  have hDH : ∀ b o, b ∉ adr M → H b = some o → b ≠ D := fun b o n e z => by rw [← z, s1.hh b o n e] at hD; cases hD
  -- the new list at D, beside
  have gD : ∀ {G' H' : Hp} {M' : Mem}, Hst X.K G' M' H' → H' D ≠ none → True := fun _ _ => trivial
  let Pv : Nat → Hp → Prop := fun i H' => ∃ acc aV M' G', I i acc M' ∧ acc.length ≤ i ∧ Hst X.K G' M' H' ∧ Stp G M H G' M' H' ∧ Same G1 G' ∧ H' D = some (.lst aV) ∧ DenL X.K G' acc aV ∧ G' D = none ∧ D ∉ adr M'
  have laid : ∀ {G' H' : Hp} {M' : Mem} {xs : List V}, Hst X.K G' M' H' → G' D = none → D ∉ adr M' → Hst X.K G' M' (upd H' D (.lst xs)) := fun {G' H' M' xs} h g n =>
    ⟨fun b o e => by rw [upd_ne (fun z => by rw [z, g] at e; cases e)]; exact h.sub b o e, fun c hc => (h.mem c hc).up (Same.refl _) fun b hb o e => by rw [upd_ne (fun z => n (by rw [← z]; exact List.mem_flatMap.mpr ⟨c, hc, hb⟩))]; exact e, h.out, h.nd⟩
  have stp : ∀ {G' H' : Hp} {M' : Mem} {xs : List V}, Stp G M H G' M' H' → Stp G M H G' M' (upd H' D (.lst xs)) := fun {G' H' M' xs} s =>
    ⟨s.gg, fun b o n e => by rw [upd_ne (hDH b o n e)]; exact s.hh b o n e, s.fr, s.ad⟩
  have n0 : D ∉ adr M1 := fun z => h1.there D z hD
  have g0 : G1 D = none := h1.sub.free hD
  refine ⟨fun i m H' => m = ds.length - i ∧ i ≤ ds.length ∧ Pv i H', ⟨_, rfl, Nat.zero_le _, [], [], M1, G1, h0, Nat.zero_le _, laid h1 g0 n0, stp s1, Same.refl _, upd_same, .nil, g0, n0⟩, ?_⟩
  rintro i m H' ⟨rfl, hle, acc, aV, M', G', hI, hal, h', s', g', hDl, hda, hg', hn'⟩
  obtain ⟨w1, w2, w3⟩ := w G' M' H' g' h' (hOk _ _ _ hI)
  -- D through a step
  have thru : ∀ {G2 H2 : Hp} {M2 : Mem}, Stp G' M' H' G2 M2 H2 → H2 D = some (.lst aV) ∧ DenL X.K G2 acc aV ∧ G2 D = none ∧ D ∉ adr M2 := fun {G2 H2 M2} s =>
    ⟨s.hh D _ hn' hDl, hda.up s.gg, s.fr D (by rw [hDl]; exact fun z => nomatch z) hn' hg', fun z => (s.ad D z).elim hn' fun q => by rw [hDl] at q; cases q⟩
  by_cases hlt : i < ds.length
  · refine .inr ⟨w1 i hlt, fun H2 => Pv (i + 1) H2, fun H2 q => ⟨ds.length - (i + 1), by omega, rfl, hlt, q⟩, fun x H2 y => ?_⟩
    obtain ⟨G2, s2, h2, dx⟩ := w3 i x H2 hlt y
    have hd' := List.getElem?_eq_getElem hlt
    have eW : DenE X.K (wipeT τ vs) G2 (wipe σ vs) := denE_wipe ((hE.up s'.gg).up s2.gg) vs
    intro sA HA CA clA fpA
    refine hb i _ acc M' hd' hI sA HA CA clA fpA (wipe σ vs) G2 H2 x eW h2 (dx _ hd') _ ?_
    intro τ3 M3 G3 H3 σ3 p3 s3 h3 e3 l3 k3
    refine ⟨?_, fun sB HB CB clB fpB => ?_⟩
    · rw [wipe_ext l3 k3, wipe_wipe]
    refine p3 sB HB CB clB fpB σ3 G3 H3 e3 h3 _ ?_
    intro bb M4 G4 H4 ⟨p4, p4'⟩ s4 h4
    have s24 := (s2.trans s3).trans s4
    cases bb with
    | false =>
      refine iteF ?_
      obtain ⟨t1, t2, t3, t4⟩ := thru s24
      exact ⟨acc, aV, M4, G4, p4' rfl, by omega, h4, s'.trans s24, g'.trans s24.gg, t1, t2, t3, t4⟩
    | true =>
      refine iteT fun sC HC CC clC fpC => ?_
      refine (p4 rfl sC HC CC clC fpC).run _ takes0 σ3 G4 H4 (e3.up s4.gg) h4 _ ?_ noX
      intro y5 M5 v5 G5 H5 p5 s5 h5 d5
      have s25 := s24.trans s5
      obtain ⟨t1, t2, t3, t4⟩ := thru s25
      refine ⟨aV, t1, by rw [hda.length]; omega, acc ++ [y5], aV ++ [v5], M5, G5, p5, by rw [List.length_append]; simp; omega, laid h5 t3 t4, stp (s'.trans s25), g'.trans s25.gg, upd_same, t2.snoc d5, t3, t4⟩
  · have e : i = ds.length := by omega
    subst e
    refine .inl ⟨w2, ?_⟩
    have hC : Hst X.K G' ((D, .lst acc) :: M') H' := ⟨h'.sub, fun c hc => by
      rcases List.mem_cons.mp hc with rfl | hc
      · exact ⟨aV, hDl, hda⟩
      · exact h'.mem c hc, fun b hb => by
      rcases List.mem_cons.mp (show b ∈ D :: adr M' from hb) with rfl | hb
      · exact hg'
      · exact h'.out b hb, List.nodup_cons.mpr ⟨hn', h'.nd⟩⟩
    have sC : Stp G M H G' ((D, .lst acc) :: M') H' := ⟨s'.gg, s'.hh, s'.fr, fun b hb => by
      rcases List.mem_cons.mp (show b ∈ D :: adr M' from hb) with rfl | hb
      · by_cases c : b ∈ adr M
        · exact .inl c
        · refine .inr ?_
          cases q : H b with
          | none => rfl
          | some o => exact (hDH b o c q rfl).elim
      · exact s'.ad b hb⟩
    exact hP _ _ _ _ _ (hd acc M' hI D) sC hC den_raw
theorem ws_setLcC0 {x : Str} {px : Pos} {scope : Scope} {ifs : List Expr} {lpos : Pos} {rest : List Stmt} {R : RK} (own : List (Str × Nat)) (h : EI X tg iter τ M (fun ds M1 Ok => ds.length ≤ sizeLine ∧ ∃ I : Nat → List Dat → Mem → Prop, I 0 [] M1 ∧ (∀ i acc M, I i acc M → Ok M) ∧
      (∀ i d acc M, ds[i]? = some d → I i acc M → ∀ (s : Shared) (H : Hp) (C : Addr) (cl : List (Str × Addr)) (fp : List Addr), GC (Cx.Bk X scope s H C cl fp) (own.map (·.2)) tg d (wipeT τ (own.map (·.2))) M (fun τ2 M2 => ∀ (s : Shared) (H : Hp) (C : Addr) (cl : List (Str × Addr)) (fp : List Addr),
        EFs (Cx.Bk X scope s H C cl fp) ifs τ2 M2 (fun b M3 => (b = true → ∀ (s : Shared) (H : Hp) (C : Addr) (cl : List (Str × Addr)) (fp : List Addr), EX (Cx.Bk X scope s H C cl fp) false elt τ2 M3 (fun y M4 => I (i + 1) (acc ++ [y]) M4) E0') ∧ (b = false → I (i + 1) acc M3)))) ∧
      (∀ acc M, I ds.length acc M → ∀ q, WS X T rest (τ.set (ixIn X.N x) (some (.raw (.ref q)))) ((q, .lst acc) :: M) R)) (fun x M1 => R (.ex x τ) M1))
    (hi : X.N[ixIn X.N x]? = some x := by rfl) (hyl : X.env.scope.names.lookup x = some .local := by rfl) (hsw : swapsWith (.ListComp elt [⟨tg, iter, ifs, 0⟩] scope lpos) (some (.Name x px)) pos.line X.env = pure true := by exact sw_true rfl rfl rfl (by first | decide +kernel | kernel_rfl))
    (ok : BlkOk X.N X.env.scope scope own := by exact blkOk_by (by first | decide +kernel | kernel_rfl)) (hN : X.N.Nodup := by first | decide +kernel | exact of_decide_eq_true (by kernel_rfl)) (hc : X.calm = true := by rfl) (hs : ∀ x, foldedSetIterable iter X.env x = pure x := by intro _; rfl) :
    WS X T (.Assign [.Name x px] (.ListComp elt [⟨tg, iter, ifs, 0⟩] scope lpos) pos :: rest) τ M R := .mk fun W tk σ G H hE hH D hR => tWSs_len fun hl => by
  refine ws_step (ps_setLc hc hN hi hyl hsw pi_W ok pg_fam pt_fam pe_fam hs) ?_
  have hlt : ixIn X.N x < σ.length := by rw [hl]; exact (List.getElem?_eq_some_iff.mp hi).1
  exact lc_readC (P := fun d M => ∃ q, d = .raw (.ref q) ∧ WS X T rest (τ.set (ixIn X.N x) (some (.raw (.ref q)))) M R) (.mk fun W' tk' σ' G' H' hE' hH' R' hR' hX' => h.run W' tk' σ' G' H' hE' hH' R' (fun J ds M1 G1 H1 Ok ⟨hz, I, i1, i2, i3, i4⟩ => hR' J ds M1 G1 H1 Ok ⟨hz, I, i1, i2, i3, fun acc M hi q => ⟨q, rfl, i4 acc M hi q⟩⟩) hX') tk hE hH
    (fun d M2 v G2 H2 ⟨q, ed, r⟩ s h2 dv => by subst ed; exact r.run W tk _ G2 H2 ((hE.up s.gg).set hlt dv) h2 D (hR.step s)) (ex_out hR hE)
end
/-- what a comprehension's list does as a cell -/
def cellP (P : PK') : PK' := fun d M => ∀ acc, d = .lst acc → ∀ q, P (.raw (.ref q)) ((q, .lst acc) :: M)
section
variable {X : Cx} {T : Bool} {tg iter elt : Expr} {τ : TEnv} {M : Mem} {pos : Pos} {P : PK'} {rest : List Stmt} {R : RK}
theorem ws_setLcC {x : Str} {px : Pos} {scope : Scope} {ifs : List Expr} {elt : Expr} {lpos : Pos} (own : List (Str × Nat)) (h : EI X tg iter τ M (fun ds M1 Ok => LcQ X scope (own.map (·.2)) tg ifs elt τ ds M1 Ok (cellP fun d M => WS X T rest (τ.set (ixIn X.N x) (some d)) M R)) (fun x M1 => R (.ex x τ) M1))
    (hi : X.N[ixIn X.N x]? = some x := by rfl) (hyl : X.env.scope.names.lookup x = some .local := by rfl) (hsw : swapsWith (.ListComp elt [⟨tg, iter, ifs, 0⟩] scope lpos) (some (.Name x px)) pos.line X.env = pure true := by exact sw_true rfl rfl rfl (by first | decide +kernel | kernel_rfl))
    (ok : BlkOk X.N X.env.scope scope own := by exact blkOk_by (by first | decide +kernel | kernel_rfl)) (hN : X.N.Nodup := by first | decide +kernel | exact of_decide_eq_true (by kernel_rfl)) (hc : X.calm = true := by rfl) (hs : ∀ x, foldedSetIterable iter X.env x = pure x := by intro _; rfl) :
    WS X T (.Assign [.Name x px] (.ListComp elt [⟨tg, iter, ifs, 0⟩] scope lpos) pos :: rest) τ M R :=
  ws_setLcC0 own (.mk fun W tk σ G H hE hH R' hR' hX' => h.run W tk σ G H hE hH R' (fun J ds M1 G1 H1 Ok ⟨hz, I, i1, i2, i3, i4⟩ => hR' J ds M1 G1 H1 Ok ⟨hz, I, i1, i2, i3, fun acc M hi q => i4 acc M hi acc rfl q⟩) hX') hi hyl hsw ok hN hc hs
end
/-! ### tuple(a list that is told as data or as a cell) -/
section
variable {X : Cx} {M : Mem} {P : PK'} {α : Type}
theorem c_tupLs {d : Dat} {ds : List Dat} (l : LsD M d ds) (h : P (.tup ds) M) : BC X (.type "tuple") [d] M P := bc_of call_tuple_of fun G H vs hH dv Q hP => by
  obtain ⟨v, rfl, dd⟩ := one_inv dv
  obtain ⟨p, us, rfl, g, dl⟩ := l.get hH dd
  refine ⟨p, us, rfl, .inl ⟨SqL.of g, fun r hr => ?_⟩⟩
  obtain ⟨s2, h2⟩ := Stp.new (o := .tup us) hH hr
  exact hP _ _ _ _ _ h s2 h2 (den_tup upd_same (dl.up s2.gg))
end
/-- iteration over a list told as data or as a cell -/
theorem ei_ls {X : Cx} {tg e : Expr} {τ : TEnv} {M : Mem} {E : XKx} {PI' : List Dat → Mem → (Mem → Prop) → Prop} (h : EX X false e τ M (fun d M1 => ∃ ds, LsD M1 d ds ∧ PI' ds M1 (fun M => LsD M d ds)) E) : EI X tg e τ M PI' E := by
  refine .mk fun W tk σ G H hE hH R hR hX => ?_
  refine tWI_of (pi_list pe_W) ?_
  refine h.run W tk σ G H hE hH _ ?_ hX
  intro d M1 v G1 H1 ⟨ds, l, hp⟩ s1 h1 dv
  rcases l with rfl | ⟨a, rfl, hm⟩
  · obtain ⟨a, vs, rfl, ga, da⟩ := dv.lst_inv
    exact ⟨a, rfl, ⟨vs, SqL.of (h1.sub _ _ ga)⟩, hR _ _ _ _ _ _ hp s1 h1 (fun G2 M2 H2 s h _ => walkD_list (SqL.of ga) da G2 M2 H2 s h trivial)⟩
  · obtain ⟨vs, g1, g2⟩ := h1.mem _ hm
    exact ⟨a, dv.raw_inv, ⟨vs, SqL.of g1⟩, hR _ _ _ _ _ _ hp s1 h1 (fun G2 M2 H2 s h q => walkD_cell (ds := ds) G2 M2 H2 s h (by
      rcases q with q | ⟨b, e, q⟩
      · cases q
      · cases e; exact q))⟩
end Kh

set_option Elab.async false
set_option linter.all false
set_option maxRecDepth 100000
set_option maxHeartbeats 1000000
namespace Kh
open PySem PySem.Spec L2
theorem cellT {α : Type} {f : α → Dat} {ys : List α} {P : PK'} {M : Mem} (h : ∀ q, P (.raw (.ref q)) ((q, .lst (ys.map f)) :: M)) : cellP P (lstD f ys) M := fun acc e q => by
  cases e; exact h q
/-! ### not None, as it stands -/
def isNoneD : Dat → Bool
  | .non => true
  | .raw (.ref _) => false
  | .raw _ => true
  | _ => false
theorem isNoneD_ne {K : PySem.W.Frag} {G : Hp} {d : Dat} {v : V} (h : isNoneD d = false) (dv : Den K G d v) : decide (v = V.non) = false := by
  by_cases e : ∃ u, d = .raw u
  · obtain ⟨u, rfl⟩ := e
    have := dv.raw_inv
    subst this
    cases v <;> first | rfl | cases h
  · rw [den_isN dv (fun u q => e ⟨u, q⟩)]
    cases d <;> first | rfl | cases h
section
variable {X : Cx} {T : Bool} {M : Mem} {P : PK'}
theorem o_isNA {x : Dat} (hn : isNoneD x = false) (h : P (.bl false) M) : OP X T (compareOp .Is) x .non M P := op_of op_isN fun G H v u hH dx dy Q hP => ⟨dy.non_inv, by rw [isNoneD_ne hn dx]; exact hP _ _ _ _ _ h Stp.refl hH den_bl⟩
end
theorem base_Add {K : PySem.W.Frag} {C : Addr} : ∀ T ∈ baseT, (∃ fo, PySem.W.findIn K (.type T) (PySem.dunder (Operator.info .Add).2) = some fo) ∧ (∃ ro, PySem.W.findIn K (.type T) (dunderR (Operator.info .Add).2) = some ro) ∧ PySem.W.subIn K (.type T) (.ref C) = some false := by
  rw [show PySem.dunder (Operator.info .Add).2 = ("__add__" : Str) from by decide +kernel, show dunderR (Operator.info .Add).2 = ("__radd__" : Str) from by decide +kernel]
  intro T hT
  simp only [baseT, List.mem_cons, List.not_mem_nil, or_false] at hT
  rcases hT with rfl | rfl | rfl | rfl | rfl | rfl | rfl <;> exact ⟨⟨_, rfl⟩, ⟨_, rfl⟩, rfl⟩
theorem base_Mult {K : PySem.W.Frag} {C : Addr} : ∀ T ∈ baseT, (∃ fo, PySem.W.findIn K (.type T) (PySem.dunder (Operator.info .Mult).2) = some fo) ∧ (∃ ro, PySem.W.findIn K (.type T) (dunderR (Operator.info .Mult).2) = some ro) ∧ PySem.W.subIn K (.type T) (.ref C) = some false := by
  rw [show PySem.dunder (Operator.info .Mult).2 = ("__mul__" : Str) from by decide +kernel, show dunderR (Operator.info .Mult).2 = ("__rmul__" : Str) from by decide +kernel]
  intro T hT
  simp only [baseT, List.mem_cons, List.not_mem_nil, or_false] at hT
  rcases hT with rfl | rfl | rfl | rfl | rfl | rfl | rfl <;> exact ⟨⟨_, rfl⟩, ⟨_, rfl⟩, rfl⟩
end Kh

set_option Elab.async false
set_option linter.all false
set_option maxRecDepth 100000
set_option maxHeartbeats 1000000
namespace Kh
open PySem PySem.Spec L2
open PySem.SeqAt (EqAt RcAt RcNeAt)
/-- a new list stands as a cell -/
theorem cell_new {K : PySem.W.Frag} {G H : Hp} {M : Mem} {p : Addr} {ds : List Dat} {vs : List V} (h1 : Hst K G M H) (hp' : H p = none) (dvs : DenL K G ds vs) : Stp G M H G ((p, .lst ds) :: M) (upd H p (.lst vs)) ∧ Hst K G ((p, .lst ds) :: M) (upd H p (.lst vs)) := by
  have nM : p ∉ adr M := fun z => h1.there p z hp'
  have ha : adr ((p, MC.lst ds) :: M) = p :: adr M := rfl
  have kp : ∀ b o, H b = some o → (upd H p (.lst vs)) b = some o := fun b o e => by rw [upd_ne (ne_of_none e hp')]; exact e
  refine ⟨⟨Same.refl _, fun b o _ e => kp b o e, fun _ _ _ g => g, fun b hb => ?_⟩, ⟨fun b o e => kp b o (h1.sub b o e), fun c hc => ?_, fun b hb => ?_, ?_⟩⟩
  · rw [ha] at hb
    rcases List.mem_cons.mp hb with rfl | hb
    · exact .inr hp'
    · exact .inl hb
  · rcases List.mem_cons.mp hc with rfl | hc
    · exact ⟨vs, upd_same, dvs⟩
    · exact (h1.mem c hc).up (Same.refl _) fun b hb o e => kp b o e
  · rw [ha] at hb
    rcases List.mem_cons.mp hb with rfl | hb
    · exact h1.sub.free hp'
    · exact h1.out b hb
  · rw [ha]
    exact List.nodup_cons.mpr ⟨nM, h1.nd⟩
section
variable {X : Cx} {T : Bool} {M : Mem} {P : PK'}
/-- list(a list), the new one as a cell -/
theorem c_listNew {d : Dat} {ds : List Dat} (l : LsD M d ds) (h : ∀ q, P (.raw (.ref q)) ((q, .lst ds) :: M)) : BC X (.type "list") [d] M P := bc_of call_list_of fun G H vs hH dv Q hP => by
  obtain ⟨v, rfl, dd⟩ := one_inv dv
  obtain ⟨p, us, rfl, g, dl⟩ := l.get hH dd
  refine ⟨p, us, rfl, .inl (SqL.of g), fun r hr => ?_⟩
  obtain ⟨s2, h2⟩ := cell_new hH hr dl
  exact hP _ _ _ _ _ (h r) s2 h2 den_raw
/-- [a list that is a cell] against [a list], equal by their items -/
theorem o_neCel {q : Addr} {xs ys : List Dat} (hm : (q, MC.lst xs) ∈ M) (h : eqTL xs ys = true) (hd : dpDL xs ≤ 58) (hu : X.A.units + 64 < cLine) (hP : P (.bl false) M) : OP X T (compareOp .NotEq) (.lst [.raw (.ref q)]) (.lst [.lst ys]) M P := by
  intro G H v u hH dx dy Q hQ pins s σ v' u' _ I r r'
  obtain ⟨a, vs, rfl, ga, da⟩ := dx.lst_inv
  obtain ⟨b, us, rfl, gb, db⟩ := dy.lst_inv
  obtain ⟨v1, rfl, d1⟩ := one_inv da
  obtain ⟨v2, rfl, d2⟩ := one_inv db
  obtain rfl := d1.raw_inv
  obtain ⟨b2, us2, rfl, gb2, db2⟩ := d2.lst_inv
  obtain ⟨vs2, gq, dq⟩ := hH.mem _ hm
  cases r; cases r'
  obtain ⟨ws, r1, p1, _⟩ := I.list (SqL.of (hH.sub _ _ ga))
  obtain ⟨zs, r2, p2, _⟩ := I.list (SqL.of (hH.sub _ _ gb))
  cases r1 with | cons ra rb => ?_
  cases rb
  cases r2 with | cons rc rd => ?_
  cases rd
  cases ra; cases rc
  obtain ⟨ws2, r3, p3, _⟩ := I.list (SqL.of gq)
  obtain ⟨zs2, r4, p4, _⟩ := I.list (SqL.of (hH.sub _ _ gb2))
  have hz : ws2.toArray.size = zs2.toArray.size := by rw [List.size_toArray, List.size_toArray, ← r3.length, ← r4.length, dq.length, db2.length, eqTL_len h]
  have inner : EqAt X.A.in1 s (.ref q) (.ref b2) true := by
    by_cases e : q = b2
    · subst e; exact EqAt.same _
    · refine EqAt.of_refs e ?_
      have := RcAt.lists (A := X.A.in1) (e := fun _ => true) p3.isList p4.isList hz (by show X.A.units + 1 < cLine; omega) (fun j h1 h2 => by
        have := eqTL_run I hH.sub xs ys X.A.in1.in1 vs2 us2 ws2 zs2 h (by show X.A.units + 1 + 1 + dpDL xs < cLine; omega) dq db2 r3 r4 j (by simpa using h1) (by simpa using h2)
        simpa using this)
      rw [all_true] at this
      exact this
  have := RcNeAt.lists (A := X.A) (e := fun _ => true) p1.isList p2.isList rfl (by omega) (fun j h1 h2 => by
    have : j = 0 := by have : j < 1 := h1; omega
    subst this
    exact inner)
  rw [all_true] at this
  exact this _ _ _ _ ⟨.bl false, H, I, rfl, hQ _ _ _ _ _ hP Stp.refl hH den_bl⟩
end
theorem grab_bind {α β : Type} {f : α → Res β} {k : Er → Res β} {Q : α → Prop} {P : β → Prop} {E : Er → Prop} (hf : ∀ b, Q b → ((f b).grab k).Out P E) : ∀ {m : Res α}, m.Out Q (fun _ => False) → ((m.bind f).grab k).Out P E
  | .ok b, h => hf b h
  | .err _, h => h.elim
  | .bad, h => h.elim
  | .all g, h => fun q => grab_bind (m := g q) hf (h q)
theorem res_assoc {α β γ : Type} {f : α → Res β} {g : β → Res γ} : ∀ {m : Res α}, (m.bind f).bind g = m.bind fun a => (f a).bind g
  | .ok _ => rfl
  | .err _ => rfl
  | .bad => rfl
  | .all k => congrArg Res.all (funext fun q => res_assoc (m := k q))
end Kh

set_option Elab.async false
set_option linter.all false
set_option maxRecDepth 100000
set_option maxHeartbeats 1000000
namespace Kh
open PySem PySem.Spec L2
/-! ### [y for x in e for y in x] as a value -/
def FlatQ (X : Cx) (scope : Scope) (vs vs1 : List Nat) (tg tg1 iter1 elt : Expr) (τ : TEnv) (P : PK') : List Dat → Mem → (Mem → Prop) → Prop := fun ds M1 Ok => ∃ xss : List (List Dat), ds = xss.map Dat.lst ∧ xss.flatten.length ≤ sizeLine ∧ Ok M1 ∧ P (.lst xss.flatten) M1 ∧
      ∀ (ds : List Dat) (s : Shared) (H : Hp) (C : Addr) (cl : List (Str × Addr)) (fp : List Addr), GC (Cx.Bk X scope s H C cl fp) vs tg (.lst ds) (wipeT τ vs) M1 (fun τ2 M2 => M2 = M1 ∧
        (∀ (s : Shared) (H : Hp) (C : Addr) (cl : List (Str × Addr)) (fp : List Addr), EI (Cx.Bk X scope s H C cl fp) tg1 iter1 τ2 M1 (fun ds' M3 Ok => ds' = ds ∧ M3 = M1 ∧ Ok M1) E0') ∧
        ∀ (d : Dat) (s : Shared) (H : Hp) (C : Addr) (cl : List (Str × Addr)) (fp : List Addr), GC (Cx.Bk X scope s H C cl fp) vs1 tg1 d (wipeT τ2 vs1) M1 (fun τ3 M4 => M4 = M1 ∧
          ∀ (s : Shared) (H : Hp) (C : Addr) (cl : List (Str × Addr)) (fp : List Addr), EX (Cx.Bk X scope s H C cl fp) false elt τ3 M1 (fun y M5 => y = d ∧ M5 = M1) E0'))
def pflat {α : Type} (xss : List (List α)) : Res (List α) := guard (xss.flatten.length ≤ sizeLine) xss.flatten
section
variable {X : Cx} {T : Bool} {tg iter elt tg1 iter1 : Expr} {τ : TEnv} {M : Mem} {E : XKx} {pos : Pos} {P : PK'}
theorem ex_flat {scope : Scope} (own : List (Str × Nat)) (vs1 : List Nat) (h : EI X tg iter τ M (FlatQ X scope (own.map (·.2)) vs1 tg tg1 iter1 elt τ P) E) (hv : ∀ i ∈ vs1, i ∈ own.map (·.2) := by decide)
    (ok : BlkOk X.N X.env.scope scope own := by exact blkOk_by (by first | decide +kernel | kernel_rfl)) (hN : X.N.Nodup := by first | decide +kernel | exact of_decide_eq_true (by kernel_rfl)) (hc : X.calm = true := by rfl) (hs : ∀ x, foldedSetIterable iter X.env x = pure x := by intro _; rfl) (hs1 : ∀ env x, foldedSetIterable iter1 env x = pure x := by intro _ _; rfl) :
    EX X T (.ListComp elt [⟨tg, iter, [], 0⟩, ⟨tg1, iter1, [], 0⟩] scope pos) τ M P E := .mk fun W tk σ G H hE hH Q hP hX =>
  tW_of (pe_lc2 hc hN pi_W ok hv pg_fam pt_fam pi_fam pg_fam pt_fam pe_fam hs hs1) (flat_read h tk hE hH hP hX)
theorem flatT {α : Type} (f : α → Dat) {xss : List (List α)} {scope : Scope} {vs vs1 : List Nat} {Q : List α → Prop} {E1 : Er → Prop} {Ok : Mem → Prop} {M1 : Mem} (h : (pflat xss).Out Q E1) (hOk : Ok M1)
    (hb : ∀ (ds : List Dat) (s : Shared) (H : Hp) (C : Addr) (cl : List (Str × Addr)) (fp : List Addr), GC (Cx.Bk X scope s H C cl fp) vs tg (.lst ds) (wipeT τ vs) M1 (fun τ2 M2 => M2 = M1 ∧
        (∀ (s : Shared) (H : Hp) (C : Addr) (cl : List (Str × Addr)) (fp : List Addr), EI (Cx.Bk X scope s H C cl fp) tg1 iter1 τ2 M1 (fun ds' M3 Ok => ds' = ds ∧ M3 = M1 ∧ Ok M1) E0') ∧
        ∀ (d : Dat) (s : Shared) (H : Hp) (C : Addr) (cl : List (Str × Addr)) (fp : List Addr), GC (Cx.Bk X scope s H C cl fp) vs1 tg1 d (wipeT τ2 vs1) M1 (fun τ3 M4 => M4 = M1 ∧
          ∀ (s : Shared) (H : Hp) (C : Addr) (cl : List (Str × Addr)) (fp : List Addr), EX (Cx.Bk X scope s H C cl fp) false elt τ3 M1 (fun y M5 => y = d ∧ M5 = M1) E0')))
    (fin : ∀ ys, Q ys → P (lstD f ys) M1) : FlatQ X scope vs vs1 tg tg1 iter1 elt τ P (xss.map (lstD f)) M1 Ok := by
  have g := gd h
  have e : (xss.map fun xs => xs.map f).flatten = xss.flatten.map f := by rw [List.map_flatten]
  refine ⟨xss.map fun xs => xs.map f, by rw [List.map_map]; rfl, ?_, hOk, ?_, hb⟩
  · rw [e, List.length_map]; exact g.1
  · rw [e]; exact fin _ g.2
end
/-! ### max(a list of whole numbers) -/
def maxL : List Int → Int
  | [] => 0
  | x :: xs => xs.foldl max x
theorem maxF_ge : ∀ {xs : List Int} {x : Int}, x ≤ xs.foldl max x ∧ ∀ y ∈ xs, y ≤ xs.foldl max x
  | [], x => ⟨Int.le_refl _, fun y h => by simp at h⟩
  | z :: xs, x => by
    obtain ⟨h1, h2⟩ := maxF_ge (xs := xs) (x := max x z)
    refine ⟨by show x ≤ xs.foldl max (max x z); omega, fun y hy => ?_⟩
    show y ≤ xs.foldl max (max x z)
    rcases List.mem_cons.mp hy with rfl | hy
    · omega
    · exact h2 y hy
theorem maxF_mem : ∀ {xs : List Int} {x : Int}, xs.foldl max x = x ∨ xs.foldl max x ∈ xs
  | [], x => .inl rfl
  | z :: xs, x => by
    show xs.foldl max (max x z) = x ∨ xs.foldl max (max x z) ∈ z :: xs
    rcases maxF_mem (xs := xs) (x := max x z) with h | h
    · rw [h]
      rcases Int.le_total x z with q | q
      · exact .inr (by rw [Int.max_eq_right q]; exact List.mem_cons_self)
      · exact .inl (Int.max_eq_left q)
    · exact .inr (List.mem_cons_of_mem _ h)
theorem maxL_mem {ns : List Int} (h : 0 < ns.length) : maxL ns ∈ ns := by
  cases ns with
  | nil => cases h
  | cons x xs => rcases maxF_mem (xs := xs) (x := x) with e | e
                 · show xs.foldl max x ∈ _; rw [e]; exact List.mem_cons_self
                 · exact List.mem_cons_of_mem _ e
theorem maxL_ge {ns : List Int} : ∀ y ∈ ns, y ≤ maxL ns := by
  cases ns with
  | nil => intro y h; simp at h
  | cons x xs =>
    intro y h
    rcases List.mem_cons.mp h with rfl | h
    · exact maxF_ge.1
    · exact maxF_ge.2 y h
def pmax (ns : List Int) : Res Int := guard (0 < ns.length) (maxL ns)
section
variable {X : Cx} {T : Bool} {M : Mem} {P : PK'} {E1 : Er → Prop}
theorem c_maxL {ns : List Int} {Q : Int → Prop} (h : (pmax ns).Out Q E1) (hk : ∀ m, Q m → P (.int m) M) (hc : X.calm = true := by rfl) : BC X (.builtin "max") [lstD Dat.int ns] M P := bc_of (cr_max hc) fun G H vs hH dv Q hP => by
  obtain ⟨v, rfl, d⟩ := one_inv dv
  obtain ⟨p, us, rfl, g, dl⟩ := d.lst_inv
  rw [dl.ints] at g
  have g2 := gd h
  refine ⟨p, ns, rfl, SqL.of (hH.sub _ _ g), g2.1, fun m hm hy => ?_⟩
  have e : m = maxL ns := Int.le_antisymm (maxL_ge m hm) (hy _ (maxL_mem g2.1))
  rw [e]
  exact hP _ _ _ _ _ (hk _ g2.2) Stp.refl hH den_int
end
/-! ### sorted(set(pairs)) -/
def psrt (rows : List (Int × Int)) : Res (List (Int × Int)) := guard (rows.length < 64 ∧ (rows.all fun p => decide (0 ≤ p.1) && decide (0 ≤ p.2)) = true) (sortU rows)
theorem psrt_out {rows : List (Int × Int)} {Q : List (Int × Int) → Prop} {E1 : Er → Prop} (h : (psrt rows).Out Q E1) : (rows.length < 64 ∧ ∀ p ∈ rows, 0 ≤ p.1 ∧ 0 ≤ p.2) ∧ Q (sortU rows) := by
  have g := gd h
  refine ⟨⟨g.1.1, fun p hp => ?_⟩, g.2⟩
  have := List.all_eq_true.mp g.1.2 p hp
  rw [Bool.and_eq_true, decide_eq_true_eq, decide_eq_true_eq] at this
  exact this
/-! ### a call of what an expression tells -/
section
variable {X : Cx} {τ : TEnv} {M : Mem} {P : PK'} {E : XKx} {cal e : Expr} {es : List Expr} {pos : Pos}
theorem ex_callX (h : EX X false cal τ M (fun d M1 => ∃ fa k fd ps S, d = .raw (.ref fa) ∧ FnD X.prog X.w X.K X.mg X.base k fa fd ps S ∧ Room k X.A ∧ PySem.W.keepIn X.K (.ref fa) = true ∧ Binds X.K fd ps [] ∧ EA X false (e :: es) τ M1 (fun ds M2 => AP S ds M2 P E) E) E)
    (hcl : eval (.Call cal (e :: es) [] pos) X.env = (eval cal X.env >>= fun f => callWith pos f [] (backTo pos (starEach (e :: es) X.env)) []) := by rfl) (he : starEach (e :: es) X.env = (false, eval e X.env) :: starEach es X.env := by rfl) (hpl : (backTo pos (starEach es X.env)).any (·.1) = false := by rfl) :
    EX X false (.Call cal (e :: es) [] pos) τ M P E := by
  refine .mk ?_; intro W tk σ G H hE hH Q hP hX pins s k0 I
  rw [hcl]
  have hO := h.run W tk σ G H hE hH (fun x H1 => ∃ fa k fd ps S, x = .ref fa ∧ FnD X.prog X.w X.K X.mg X.base k fa fd ps S ∧ Room k X.A ∧ PySem.W.keepIn X.K (.ref fa) = true ∧ Binds X.K fd ps [] ∧ tWA X false (e :: es) σ H1 (fun vs H2 => toSp X.K S vs H2 Q (fun c d H3 => W c d σ H3)))
    (fun d M1 v G1 H1 ⟨fa, k, fd, ps, S, ed, F, hr, hk, hb, ha⟩ s1 h1 dv => by
      subst ed
      exact ⟨fa, k, fd, ps, S, dv.raw_inv, F, hr, hk, hb, ha.run W tk σ G1 H1 (hE.up s1.gg) h1 _ (fun ds M2 vs G2 H2 hap s2 h2 dvs => ap_toSp hap dvs h2 (hP.step (s1.trans s2)) (hX.step (s1.trans s2))) (hX.step s1)⟩) hX
  refine wpAny_bind (thn (hO pins s tk_f I) fun u s1 ⟨x, H1, I1, rx, fa, k, fd, ps, S, ex, F, hr, hk, hb, hA⟩ => ?_)
  subst ex
  obtain rfl : u = Value.ref fa := rx
  refine PySem.W.callWith_K (h₀ := X.base) I1.ok.mod.kin hk (thn (hA pos pins s1 tk_f I1) fun us s2 ⟨vs, H2, I2, r, q⟩ => ⟨I2.kIn, ?_⟩) he hpl
  exact run_d (dsv := []) (dvs := []) F hr hb .nil tk I2 r (by rw [List.append_nil]; exact q)
end
end Kh

set_option Elab.async false
set_option linter.all false
set_option maxRecDepth 100000
set_option maxHeartbeats 1000000
namespace Kh
open PySem PySem.Spec L2
section
variable {X : Cx} {T : Bool} {M : Mem} {P : PK'}
/-- list + list, the new one as a cell -/
theorem o_catNew {x y : Dat} {xs ys : List Dat} (lx : LsD M x xs) (ly : LsD M y ys) (hl : xs.length + ys.length ≤ sizeLine) (h : ∀ q, P (.raw (.ref q)) ((q, .lst (xs ++ ys)) :: M)) : OP X T (binaryOp .Add) x y M P := op_of op_cat fun G H v u hH dx dy Q hP => by
  obtain ⟨p, vs, rfl, g1, d1⟩ := lx.get hH dx
  obtain ⟨q, us, rfl, g2, d2⟩ := ly.get hH dy
  refine ⟨p, q, vs, us, rfl, rfl, g1, g2, by rw [d1.length, d2.length]; exact hl, fun r hr => ?_⟩
  obtain ⟨s2, h2⟩ := cell_new hH hr (d1.append d2)
  exact hP _ _ _ _ _ (h r) s2 h2 den_raw
end
end Kh
namespace Kh
open PySem PySem.Spec L2
section
variable {X : Cx} {T : Bool} {τ : TEnv} {M : Mem} {P : PK'} {E : XKx} {e : Expr} {p1 p2 pos1 pos2 : Pos}
theorem ex_srtSetT (hm1 : X.mg "sorted" = none) (hm2 : X.mg "set" = none) (hu : X.A.units + 64 < cLine) (h : EX X T e τ M (fun d M1 => ∃ rows : List (Int × Int), d = lstD ipD rows ∧ ∃ Q E1, (psrt rows).Out Q E1 ∧ ∀ z, Q z → P (lstD ipD z) M1) E) (hc : X.calm = true := by rfl)
    (hg1 : Gl X "sorted" := by rfl) (hg2 : Gl X "set" := by rfl) (he1 : starEach [.Call (.Name "set" p2) [e] [] pos2] X.env = (false, eval (.Call (.Name "set" p2) [e] [] pos2) X.env) :: starEach [] X.env := by rfl) (he2 : starEach [e] X.env = (false, eval e X.env) :: starEach [] X.env := by rfl)
    (hp1 : (backTo pos1 (starEach [] X.env)).any (·.1) = false := by rfl) (hp2 : (backTo pos2 (starEach [] X.env)).any (·.1) = false := by rfl) :
    EX X T (.Call (.Name "sorted" p1) [.Call (.Name "set" p2) [e] [] pos2] [] pos1) τ M P E :=
  ex_srtSet hm1 hm2 (h.imp (fun d M1 ⟨rows, ed, Q, E1, ho, hk⟩ => ⟨rows, ed, (psrt_out ho).1, hk _ (psrt_out ho).2⟩) fun _ _ x => x) hu hc hg1 hg2 he1 he2 hp1 hp2
end
end Kh

set_option Elab.async false
set_option linter.all false
set_option maxRecDepth 100000
set_option maxHeartbeats 1000000
namespace Kh
open PySem PySem.Spec L2
/-! ### calls with keywords, with defaults -/
def tWK (X : Cx) (kws : List Keyword) : TA := fun σ H Q => ∀ (pos : Pos) pins s, Inv X pins σ H s → wpAny (model X.prog X.w) X.A (evalAll ((backToKw pos (keywordEach kws X.env)).map (·.2))) (L2.AP X pins σ Q) X.xe s
theorem pk_W {X : Cx} {kws : List Keyword} : PK X kws (tWK X kws) := ⟨fun pos pins s σ H Q I h => h pos pins s I⟩
theorem tWK_of {X : Cx} {kws : List Keyword} {t : TA} {σ : L2.St} {H : Hp} {Q : List V → Hp → Prop} (h : PK X kws t) (q : t σ H Q) : tWK X kws σ H Q := fun pos pins s I => h.run pos pins s σ H Q I q
structure EKw (X : Cx) (kws : List Keyword) (τ : TEnv) (M : Mem) (P : List Dat → Mem → Prop) (E : XKx) : Prop where
  run : ∀ W, Takes X W → ∀ σ G H, DenE X.K τ G σ → Hst X.K G M H → ∀ Q, CA' X.K G M H P Q → CX' X.K G M H E (fun c d H2 => W c d σ H2) → tWK X kws σ H Q
/-- where a parameter's value comes from -/
inductive Src where
  | p (i : Nat) | k (i : Nat) | d (x : Dat) (v : V) (u : Value)
def Src.dat (ds zs : List Dat) : Src → Dat
  | .p i => ds.getD i .non
  | .k i => zs.getD i .non
  | .d x _ _ => x
def Src.vv (vs zs : List V) : Src → V
  | .p i => vs.getD i .non
  | .k i => zs.getD i .non
  | .d _ v _ => v
def Src.val (us ws : List Value) : Src → Value
  | .p i => us.getD i .none
  | .k i => ws.getD i .none
  | .d _ _ u => u
def Src.Ok (K : PySem.W.Frag) : Src → Prop
  | .d x v u => (∀ G, Den K G x v) ∧ RelV v u
  | _ => True
structure KwB (K : PySem.W.Frag) (fd : FuncData) (ps : List Str) (n : Nat) (ks : List Str) (t : List Src) : Prop where
  to : ∀ (s : Shared) (us ws : List Value), K.In s.heap → us.length = n → ws.length = ks.length → BindsTo s fd ⟨us, ks.zip ws⟩ (ps.zip (t.map (Src.val us ws)))
  ok : ∀ x ∈ t, x.Ok K
theorem okn {K : PySem.W.Frag} : ∀ x ∈ ([] : List Src), x.Ok K := fun x h => by simp at h
theorem okc {K : PySem.W.Frag} {x : Src} {t : List Src} (h : x.Ok K) (r : ∀ y ∈ t, y.Ok K) : ∀ y ∈ x :: t, y.Ok K := fun y hy => by
  rcases List.mem_cons.mp hy with rfl | hy
  · exact h
  · exact r y hy
theorem vals_getD {vs : List V} {us : List Value} (r : Vals vs us) (i : Nat) : RelV (vs.getD i .non) (us.getD i .none) := by
  induction r generalizing i with
  | nil => cases i <;> rfl
  | cons h r ih =>
    cases i with
    | zero => exact h
    | succ i => exact ih i
theorem denL_getD {K : PySem.W.Frag} {G : Hp} {ds : List Dat} {vs : List V} (h : DenL K G ds vs) (i : Nat) : Den K G (ds.getD i .non) (vs.getD i .non) := by
  by_cases hi : i < ds.length
  · obtain ⟨v, e, d⟩ := h.get (List.getElem?_eq_getElem hi)
    simp only [List.getD, List.getElem?_eq_getElem hi, e, Option.getD_some]
    exact d
  · have hv : ¬ i < vs.length := by rw [h.length]; exact hi
    simp only [List.getD, List.getElem?_eq_none (Nat.le_of_not_lt hi), List.getElem?_eq_none (Nat.le_of_not_lt hv), Option.getD_none]
    exact den_non
theorem src_vals {K : PySem.W.Frag} {vs : List V} {us : List Value} {zs : List V} {ws : List Value} (r : Vals vs us) (q : Vals zs ws) : ∀ {t : List Src}, (∀ x ∈ t, x.Ok K) → Vals (t.map (Src.vv vs zs)) (t.map (Src.val us ws))
  | [], _ => .nil
  | x :: t, h => .cons (by
      cases x with
      | p i => exact vals_getD r i
      | k i => exact vals_getD q i
      | d x v u => exact (h _ List.mem_cons_self).2) (src_vals r q fun y hy => h y (List.mem_cons_of_mem _ hy))
theorem src_den {K : PySem.W.Frag} {G : Hp} {ds zs : List Dat} {vs ws : List V} (r : DenL K G ds vs) (q : DenL K G zs ws) : ∀ {t : List Src}, (∀ x ∈ t, x.Ok K) → DenL K G (t.map (Src.dat ds zs)) (t.map (Src.vv vs ws))
  | [], _ => .nil
  | x :: t, h => .cons (by
      cases x with
      | p i => exact denL_getD r i
      | k i => exact denL_getD q i
      | d x v u => exact (h _ List.mem_cons_self).1 G) (src_den r q fun y hy => h y (List.mem_cons_of_mem _ hy))
/-- defaults by place, and keyword-only ones -/
theorem binds_dk {K : PySem.W.Frag} {s : Shared} {fd : FuncData} {args : Args} {r : List (Str × Value)} {T D : Addr} {o : Obj} {its : Array Value} {n : Nat} {k : Option (Array Value) → Sem (List (Str × Value))} {l : List (Str × Value)} (X : K.In s.heap) (lT : K.lookup T = some o) (oT : o.data = .seq its n)
    (h1 : bindArgs fd args = seqItems? (.ref T) >>= k) (hks : ∀ q ∈ l, PySem.W.nsIn K D q.1 = some (some q.2)) (h2 : KwChain D l (k (some its)) r) : BindsTo s fd args r := BindsTo.of_looks fun M => by
  rw [h1]; exact looks_items X lT oT (KwChain.looks X hks h2)
theorem binds_d {K : PySem.W.Frag} {s : Shared} {fd : FuncData} {args : Args} {r : List (Str × Value)} {T : Addr} {o : Obj} {its : Array Value} {n : Nat} {k : Option (Array Value) → Sem (List (Str × Value))} (X : K.In s.heap) (lT : K.lookup T = some o) (oT : o.data = .seq its n)
    (h1 : bindArgs fd args = seqItems? (.ref T) >>= k) (h2 : k (some its) = pure r) : BindsTo s fd args r := BindsTo.of_looks fun M => by
  rw [h1]; exact looks_items X lT oT (.of_pure h2)
theorem binds_k {K : PySem.W.Frag} {s : Shared} {fd : FuncData} {args : Args} {r : List (Str × Value)} {D : Addr} {l : List (Str × Value)} (X : K.In s.heap)
    (hks : ∀ q ∈ l, PySem.W.nsIn K D q.1 = some (some q.2)) (h2 : KwChain D l (bindArgs fd args) r) : BindsTo s fd args r := BindsTo.of_looks fun M => KwChain.looks X hks h2
theorem hk1 {K : PySem.W.Frag} {D : Addr} {x : Str} {v : Value} (h : PySem.W.nsIn K D x = some (some v)) : ∀ q ∈ [(x, v)], PySem.W.nsIn K D q.1 = some (some q.2) := fun q hq => by
  rw [List.mem_singleton.mp hq]; exact h
section
variable {X : Cx} {T : Bool} {τ : TEnv} {M : Mem} {P : PK'} {E : XKx} {e : Expr} {es : List Expr} {pos p kpos : Pos} {k n : Nat} {f : Addr} {fd : FuncData} {ps ks : List Str} {S : Spc} {x : Str} {nm : Option Str} {kws : List Keyword} {t : List Src}
theorem ek_nil {P : List Dat → Mem → Prop} (h : P [] M) : EKw X [] τ M P E := .mk fun W tk σ G H hE hH Q hP hX => tWK_of pk_nil (hP _ _ _ _ _ h Stp.refl hH .nil)
theorem ek_cons {P : List Dat → Mem → Prop} (h : EX X false e τ M (fun d M1 => EKw X kws τ M1 (fun ds M2 => P (d :: ds) M2) E) E) : EKw X (⟨nm, e, kpos⟩ :: kws) τ M P E := by
  refine .mk ?_; intro W tk σ G H hE hH Q hP hX
  refine tWK_of (pk_cons pe_W pk_W) ?_
  refine h.run W tk σ G H hE hH _ ?_ hX
  intro d M1 v G1 H1 hb s1 h1 dv
  refine hb.run W tk σ G1 H1 (hE.up s1.gg) h1 _ ?_ (hX.step s1)
  intro ds M2 vs G2 H2 ho s2 h2 dvs
  exact hP (d :: ds) M2 (v :: vs) G2 H2 ho (s1.trans s2) h2 (.cons (dv.up s2.gg) dvs)
theorem run_dN {pins : List (Addr × Obj)} {σ : L2.St} {H : Hp} {s : Shared} {Q : VK} {us ws : List Value} {vs zs : List V} {W : WX} (F : FnD X.prog X.w X.K X.mg X.base k f fd ps S) (hr : Room k X.A) (hb : KwB X.K fd ps n ks t) (tk : Takes X W)
    (I : Inv X pins σ H s) (r : Vals vs us) (rz : Vals zs ws) (l1 : vs.length = n) (l2 : zs.length = ks.length) (h : toSp X.K S (t.map (Src.vv vs zs)) H Q (fun c d H2 => W c d σ H2)) : wpAny (model X.prog X.w) X.A (call (.ref f) us (ks.zip ws)) (EP X pins σ Q) X.xe s := by
  have r2 := src_vals r rz hb.ok
  refine wpAny_call (codeAny_mono (F.run X.A X.stack s H ⟨us, ks.zip ws⟩ (t.map (Src.val us ws)) (t.map (Src.vv vs zs)) Q (fun c d H2 => W c d σ H2) hr I.env0 (hb.to s us ws I.kIn (r.length.symm.trans l1) (rz.length.symm.trans l2)) r2 h) fun r s' hq => ?_)
  cases r with
  | error e => exact tk e s' (XE.of_call I (fun cls d H' h => h) hq)
  | ok fl =>
    cases fl with
    | ret u => exact I.after hq
    | next => exact False.elim hq
    | brk => exact False.elim hq
    | cont => exact False.elim hq
/-- f(e, .., k = v, ..) -/
theorem ex_callK (F : FnD X.prog X.w X.K X.mg X.base k f fd ps S) (hr : Room k X.A) (hm : X.mg x = some (.ref f)) (hk : PySem.W.keepIn X.K (.ref f) = true) (hb : KwB X.K fd ps n ks t)
    (h : EA X T (e :: es) τ M (fun ds M1 => ds.length = n ∧ EKw X kws τ M1 (fun zs M2 => zs.length = ks.length ∧ S (t.map (Src.dat ds zs)) M2 (UpP P) (UpP E)) E) E) (hg : Gl X x := by rfl)
    (hall : (backToKw pos (keywordEach kws X.env)).all (·.1.isSome) = true := by rfl) (hks : (backToKw pos (keywordEach kws X.env)).filterMap (·.1) = ks := by rfl)
    (hdb : (x == ("__debug__" : Str)) = false := by decide) (he : starEach (e :: es) X.env = (false, eval e X.env) :: starEach es X.env := by rfl)
    (hpl : ((backTo pos (starEach (e :: es) X.env)).any (·.1) || (backToKw pos (keywordEach kws X.env)).any (·.1.isNone)) = false := by rfl) :
    EX X T (.Call (.Name x p) (e :: es) kws pos) τ M P E := by
  refine .mk ?_; intro W tk σ G H hE hH Q hP hX pins s k0 I
  refine wpAny_Call_Name_kw (ld_glob I hg hm ?_ hdb)
  have hA := h.run W tk σ G H hE hH (fun vs H1 => vs.length = n ∧ tWK X kws σ H1 fun zs H2 => zs.length = ks.length ∧ toSp X.K S (t.map (Src.vv vs zs)) H2 Q (fun c d H3 => W c d σ H3)) (fun ds M1 vs G1 H1 ⟨hl, ha⟩ s1 h1 dv => by
    refine ⟨by rw [dv.length]; exact hl, ha.run W tk σ G1 H1 (hE.up s1.gg) h1 _ (fun zs M2 ws G2 H2 ⟨hl2, hS⟩ s2 h2 dw => ?_) (hX.step s1)⟩
    exact ⟨by rw [dw.length]; exact hl2, ap_toSp (ap_all hS) (src_den (dv.up s2.gg) dw hb.ok) h2 (hP.step (s1.trans s2)) (hX.step (s1.trans s2))⟩) hX
  refine PySem.W.callWith_KW (h₀ := X.base) I.ok.mod.kin hk hall (thn (hA pos pins s k0 I) fun us s1 ⟨vs, H1, I1, r, l1, q⟩ => ?_) hpl he
  refine thn (q pos pins s1 I1) fun ws s2 ⟨zs, H2, I2, rz, l2, q2⟩ => ⟨I2.kIn, ?_⟩
  rw [hks]
  exact run_dN F hr hb tk I2 r rz l1 l2 q2
end
/-! ### a list backwards; list(range(..)); in a list of data -/
section
variable {X : Cx} {T : Bool} {τ : TEnv} {M : Mem} {P : PK'} {E : XKx} {e a b : Expr} {pos p p1 p2 p3 : Pos} {kk : Nat} {α : Type} {E1 : Er → Prop}
theorem denL_rev {K : PySem.W.Frag} {G : Hp} : ∀ {ds : List Dat} {vs : List V}, DenL K G ds vs → DenL K G ds.reverse vs.reverse
  | [], _, h => by rw [h.nil_inv]; exact .nil
  | d :: ds, _, h => by
    obtain ⟨v, r, rfl, h1, h2⟩ := h.cons_inv
    rw [List.reverse_cons, List.reverse_cons]
    exact (denL_rev h2).append (.cons h1 .nil)
theorem ex_revL (h : EX X false e τ M (fun d M1 => ∃ ds, LsD M1 d ds ∧ P (.lst ds.reverse) M1) E) : EX X T (.Subscript e (.Slice none none (some (.UnaryOp .USub (.Constant (.int 1) kk p1) p2)) p3) pos) τ M P E := .mk fun W tk σ G H hE hH Q hP hX => by
  refine tW_of (pe_revL pe_W) ?_
  refine h.run W tk σ G H hE hH _ (fun d M1 v G1 H1 ⟨ds, hl, hp⟩ s1 h1 dv => ?_) hX
  rcases hl with rfl | ⟨q, rfl, hq⟩
  · obtain ⟨c, vs, rfl, g, dl⟩ := dv.lst_inv
    refine ⟨c, vs, rfl, SqL.of (h1.sub _ _ g), fun r hr => ?_⟩
    obtain ⟨s2, h2⟩ := Stp.new (o := .lst vs.reverse) h1 hr
    exact hP _ _ _ _ _ hp (s1.trans s2) h2 (den_lst upd_same (denL_rev (dl.up s2.gg)))
  · obtain ⟨vs, g, dl⟩ := h1.mem _ hq
    obtain rfl := dv.raw_inv
    refine ⟨q, vs, rfl, SqL.of g, fun r hr => ?_⟩
    obtain ⟨s2, h2⟩ := Stp.new (o := .lst vs.reverse) h1 hr
    exact hP _ _ _ _ _ hp (s1.trans s2) h2 (den_lst upd_same (denL_rev (dl.up s2.gg)))
/-- list(range(n)) -/
def plrng (n : Int) : Res (List Int) := guard (0 ≤ n ∧ n ≤ 16777216) (rangeL 0 n.toNat)
theorem denL_rgV {K : PySem.W.Frag} {G : Hp} {n : Int} : DenL K G ((rangeL 0 n.toNat).map Dat.int) (rgV 0 n) := by
  unfold rgV rangeL
  rw [Int.sub_zero]
  generalize n.toNat = m
  induction m with
  | zero => exact .nil
  | succ m ih =>
    rw [List.range_succ, List.map_append, List.map_append, List.map_append]
    exact ih.append (.cons den_int .nil)
theorem ex_listRng (hm1 : X.mg "list" = none) (hm2 : X.mg "range" = none) (h : EX X false a τ M (fun d M1 => ∃ n, d = .int n ∧ ∃ Q, (plrng n).Out Q E1 ∧ ∀ l, Q l → P (lstD Dat.int l) M1) E) (hc : X.calm = true := by rfl) (hg1 : Gl X "list" := by rfl) (hg2 : Gl X "range" := by rfl)
    (na : starEach [a] X.env = (false, eval a X.env) :: starEach [] X.env := by rfl) (na2 : starEach [.Call (.Name "range" p2) [a] [] p3] X.env = (false, eval (.Call (.Name "range" p2) [a] [] p3) X.env) :: starEach [] X.env := by rfl) :
    EX X T (.Call (.Name "list" p1) [.Call (.Name "range" p2) [a] [] p3] [] pos) τ M P E := .mk fun W tk σ G H hE hH Q hP hX => by
  refine tW_of (pe_listRg hc hg1 hm1 (prg_1 hg2 hm2 pe_W na) na2) ?_
  refine h.run W tk σ G H hE hH _ (fun d M1 v G1 H1 ⟨n, ed, Q', hg, hk⟩ s1 h1 dv => ?_) hX
  subst ed
  have hb := (gd hg).1
  refine ⟨n, dv.int_inv, RgOk.of_le (Int.le_refl _) (by omega) (by omega) hb.1, fun r hr => ?_⟩
  obtain ⟨s2, h2⟩ := Stp.new (o := .lst (rgV 0 n)) h1 hr
  exact hP _ _ _ _ _ (hk _ (gd hg).2) (s1.trans s2) h2 (den_lst upd_same denL_rgV)
theorem any_eqv {e : α → Dat} [DecidableEq α] (p : PyE e) (a : α) : ∀ xs : List α, ((xs.map p.py).any fun z => PyData.eqv z (p.py a)) = decide (a ∈ xs)
  | [] => by simp
  | x :: xs => by
    rw [List.map_cons, List.any_cons, any_eqv p a xs, p.eqv, Bool.eq_iff_iff]
    simp only [Bool.or_eq_true, decide_eq_true_eq, List.mem_cons]
    constructor
    · rintro (h | h)
      · exact .inl h.symm
      · exact .inr h
    · rintro (h | h)
      · exact .inl h.symm
      · exact .inr h
/-- is it in the list? their texts must be texts -/
def pinL {α : Type} [DecidableEq α] (ok : α → Bool) (a : α) (xs : List α) : Res Bool := guard (ok a = true ∧ xs.all ok = true) (decide (a ∈ xs))
theorem cellDp {e : α → Dat} [DecidableEq α] (p : PyE e) {K : PySem.W.Frag} {G H : Hp} {M : Mem} (hH : Hst K G M H) {d : Dat} {xs : List α} {v : V} (hl : LsD M d (xs.map e)) (dv : Den K G d v) : Dp K H v (.list (xs.map p.py)) := by
  rcases hl with rfl | ⟨q, rfl, hq⟩
  · exact toPy_dp hH.sub _ _ _ dv (by simp [toPy, toPyL_map p])
  · obtain ⟨vs, g, dl⟩ := hH.mem _ hq
    obtain rfl := dv.raw_inv
    exact .lst (SqL.of g) (toPyL_dp hH.sub _ _ _ dl (toPyL_map p xs))
theorem r_inL {e : α → Dat} [DecidableEq α] (p : PyE e) {a : α} {d : Dat} {xs : List α} (hu : X.A.units + 65 < cLine) (hl : LsD M d (xs.map e)) {Q : Bool → Prop} (h : (pinL p.ok a xs).Out Q E1) (hk : ∀ z, Q z → P (.bl z) M) (hd : p.dep ≤ 60 := by decide) : OP X T (compareOp .In) (e a) d M P :=
  op_of (op_inD hu) fun G H v u hH dx dy Q' hP => by
    have h2 := gd h
    refine ⟨p.py a, xs.map p.py, toPy_dp hH.sub _ _ _ dx (p.to a), cellDp p hH hl dy, p.shaped (by omega) h2.1.1, (pyL p).shaped (a := xs) (by show p.dep + 1 ≤ 64; omega) h2.1.2, ?_⟩
    rw [any_eqv]
    exact hP _ _ _ _ _ (hk _ h2.2) Stp.refl hH den_bl
theorem r_notInL {e : α → Dat} [DecidableEq α] (p : PyE e) {a : α} {d : Dat} {xs : List α} (hu : X.A.units + 65 < cLine) (hl : LsD M d (xs.map e)) {Q : Bool → Prop} (h : (pinL p.ok a xs).Out Q E1) (hk : ∀ z, Q z → P (.bl (!z)) M) (hd : p.dep ≤ 60 := by decide) : OP X T (compareOp .NotIn) (e a) d M P :=
  op_of (op_notInD hu) fun G H v u hH dx dy Q' hP => by
    have h2 := gd h
    refine ⟨p.py a, xs.map p.py, toPy_dp hH.sub _ _ _ dx (p.to a), cellDp p hH hl dy, p.shaped (by omega) h2.1.1, (pyL p).shaped (a := xs) (by show p.dep + 1 ≤ 64; omega) h2.1.2, ?_⟩
    rw [any_eqv]
    exact hP _ _ _ _ _ (hk _ h2.2) Stp.refl hH den_bl
end
end Kh

set_option Elab.async false
set_option linter.all false
set_option maxRecDepth 100000
set_option maxHeartbeats 1000000
namespace Kh
open PySem PySem.Spec L2
/-! ### new lists as cells: comprehensions, list(xs), xs[::-1] -/
theorem newC {K : PySem.W.Frag} {G H : Hp} {M : Mem} {p : Addr} {o : HO} {c : MC} (h : Hst K G M H) (hp : H p = none) (ha : adr1 (p, c) = [p]) (hm : MH K G (upd H p o) (p, c)) :
    Stp G M H G ((p, c) :: M) (upd H p o) ∧ Hst K G ((p, c) :: M) (upd H p o) := by
  have nM : p ∉ adr M := fun z => h.there p z hp
  have hadr : adr ((p, c) :: M) = p :: adr M := by show adr1 (p, c) ++ adr M = _; rw [ha]; rfl
  have kp : ∀ b u, H b = some u → (upd H p o) b = some u := fun b u e => by rw [upd_ne (ne_of_none e hp)]; exact e
  refine ⟨⟨Same.refl _, fun b u _ e => kp b u e, fun _ _ _ g => g, fun b hb => ?_⟩, ⟨fun b u e => kp b u (h.sub b u e), fun d hd => ?_, fun b hb => ?_, ?_⟩⟩
  · rw [hadr] at hb
    rcases List.mem_cons.mp hb with rfl | hb
    · exact .inr hp
    · exact .inl hb
  · rcases List.mem_cons.mp hd with rfl | hd
    · exact hm
    · exact (h.mem d hd).up (Same.refl _) fun b hb u e => kp b u e
  · rw [hadr] at hb
    rcases List.mem_cons.mp hb with rfl | hb
    · exact h.sub.free hp
    · exact h.out b hb
  · rw [hadr]; exact List.nodup_cons.mpr ⟨nM, h.nd⟩
section
variable {X : Cx} {T : Bool} {tg iter elt e a : Expr} {τ : TEnv} {M : Mem} {E : XKx} {pos p p1 p2 p3 : Pos} {kk : Nat} {P : PK'} {α : Type} {E1 : Er → Prop}
theorem ex_lcC {scope : Scope} {ifs : List Expr} (own : List (Str × Nat)) (h : EI X tg iter τ M (fun ds M1 Ok => LcQ X scope (own.map (·.2)) tg ifs elt τ ds M1 Ok (cellP P)) E)
    (ok : BlkOk X.N X.env.scope scope own := by exact blkOk_by (by first | decide +kernel | kernel_rfl)) (hN : X.N.Nodup := by first | decide +kernel | exact of_decide_eq_true (by kernel_rfl)) (hc : X.calm = true := by rfl) (hs : ∀ x, foldedSetIterable iter X.env x = pure x := by intro _; rfl) :
    EX X T (.ListComp elt [⟨tg, iter, ifs, 0⟩] scope pos) τ M P E := .mk fun W tk σ G H hE hH Q hP hX =>
  tW_of (pe_lc hc hN pi_W ok pg_fam pt_fam pe_fam hs) (lc_readC (.mk fun W' tk' σ' G' H' hE' hH' R' hR' hX' => h.run W' tk' σ' G' H' hE' hH' R' (fun J ds M1 G1 H1 Ok ⟨hz, I, i1, i2, i3, i4⟩ => hR' J ds M1 G1 H1 Ok ⟨hz, I, i1, i2, i3, fun acc M hi q => i4 acc M hi acc rfl q⟩) hX') tk hE hH hP hX)
theorem c_listLsC {d : Dat} {ds : List Dat} (l : LsD M d ds) (h : ∀ q, P (.raw (.ref q)) ((q, .lst ds) :: M)) : BC X (.type "list") [d] M P := bc_of call_list_of fun G H vs hH dv Q hP => by
  obtain ⟨v, rfl, dd⟩ := one_inv dv
  obtain ⟨p, us, rfl, g, dl⟩ := l.get hH dd
  refine ⟨p, us, rfl, .inl (SqL.of g), fun r hr => ?_⟩
  obtain ⟨s2, h2⟩ := newC (o := .lst us) (c := .lst ds) hH hr rfl ⟨us, upd_same, dl⟩
  exact hP _ _ _ _ _ (h r) s2 h2 den_raw
theorem c_listLs {d : Dat} {ds : List Dat} (l : LsD M d ds) (h : P (.lst ds) M) : BC X (.type "list") [d] M P := bc_of call_list_of fun G H vs hH dv Q hP => by
  obtain ⟨v, rfl, dd⟩ := one_inv dv
  obtain ⟨p, us, rfl, g, dl⟩ := l.get hH dd
  refine ⟨p, us, rfl, .inl (SqL.of g), fun r hr => ?_⟩
  obtain ⟨s2, h2⟩ := Stp.new (o := .lst us) hH hr
  exact hP _ _ _ _ _ h s2 h2 (den_lst upd_same (dl.up s2.gg))
theorem ex_revLC (h : EX X false e τ M (fun d M1 => ∃ ds, LsD M1 d ds ∧ ∀ q, P (.raw (.ref q)) ((q, .lst ds.reverse) :: M1)) E) : EX X T (.Subscript e (.Slice none none (some (.UnaryOp .USub (.Constant (.int 1) kk p1) p2)) p3) pos) τ M P E := .mk fun W tk σ G H hE hH Q hP hX => by
  refine tW_of (pe_revL pe_W) ?_
  refine h.run W tk σ G H hE hH _ (fun d M1 v G1 H1 ⟨ds, hl, hp⟩ s1 h1 dv => ?_) hX
  obtain ⟨c, vs, rfl, g, dl⟩ := hl.get h1 dv
  refine ⟨c, vs, rfl, SqL.of g, fun r hr => ?_⟩
  obtain ⟨s2, h2⟩ := newC (o := .lst vs.reverse) (c := .lst ds.reverse) h1 hr rfl ⟨_, upd_same, denL_rev dl⟩
  exact hP _ _ _ _ _ (hp r) (s1.trans s2) h2 den_raw
end
/-- one cell less, at an end -/
theorem dC (L1 : Mem) {c : Addr × MC} {L2 : Mem} {d : Dat} {P : PK'} (h : ∃ A B, (L1 ++ L2).Perm (A ++ B) ∧ P d A) : ∃ A B, (L1 ++ c :: L2).Perm (A ++ B) ∧ P d A := by
  obtain ⟨A, B, pm, hp⟩ := h
  exact ⟨A, c :: B, (List.perm_middle.trans (pm.cons c)).trans List.perm_middle.symm, hp⟩
/-- what may be None, told apart -/
def optP {α : Type} (o : Option α) (a : Prop) (b : α → Prop) : Prop := match o with
  | none => a
  | some v => b v
/-! the joining rules, whatever is wanted behind -/
section
variable {X : Cx} {T : Bool} {τ : TEnv} {M : Mem} {P : PK'} {E : XKx} {t e : Expr} {p q rest : List Stmt} {pos : Pos} {α σ : Type} {E1 : Er → Prop} {R : RK}
theorem exJQ {m : Res α} (f : α → Dat) {Q : α → Prop} (h : m.Out Q E1) (he : ∀ Q : α → Prop, m.Out Q E1 → EX X T e τ M (fun d M1 => M1 = M ∧ ∃ v, d = f v ∧ Q v) E) (hk : ∀ v, Q v → P (f v) M) : EX X T e τ M P E := exJ f h (he Q) hk
theorem etJQ {m : Res Bool} {Q : Bool → Prop} {Pb : Bool → Mem → Prop} (h : m.Out Q E1) (he : ∀ Q : Bool → Prop, m.Out Q E1 → ET X T e τ M (fun k M1 => M1 = M ∧ Q k) E) (hk : ∀ v, Q v → Pb v M) : ET X T e τ M Pb E := etJ h (he Q) hk
theorem ws_ifQ {m : Res σ} {Q : σ → Prop} (JJ : (σ → Prop) → TEnv → Mem → Prop) (h : m.Out Q E1)
    (hif : ∀ Q : σ → Prop, m.Out Q E1 → ET X T t τ M (fun k M1 => (k = true → WS X T p τ M1 (thenR (JJ Q) R)) ∧ (k = false → WS X T q τ M1 (thenR (JJ Q) R))) (fun x M1 => R (.ex x τ) M1))
    (hk : ∀ τ' M', JJ Q τ' M' → WS X T rest τ' M' R) : WS X T (.If t p q pos :: rest) τ M R := ws_ifJ JJ h (hif Q) hk
end
theorem okO {α : Type} {a : α} {Q : α → Prop} {E : Er → Prop} (h : (Res.ok a).Out Q E) : Q a := h
theorem opN {α : Type} {a : Prop} {b : α → Prop} (h : a) : optP none a b := h
theorem opS {α : Type} {v : α} {a : Prop} {b : α → Prop} (h : b v) : optP (some v) a b := h
theorem ex_revLT {X : Cx} {T : Bool} {τ : TEnv} {M : Mem} {P : PK'} {E : XKx} {e : Expr} {pos p1 p2 p3 : Pos} {kk : Nat} {α : Type} (f : α → Dat) (h : EX X false e τ M (fun d M1 => ∃ xs : List α, LsD M1 d (xs.map f) ∧ P (lstD f xs.reverse) M1) E) : EX X T (.Subscript e (.Slice none none (some (.UnaryOp .USub (.Constant (.int 1) kk p1) p2)) p3) pos) τ M P E :=
  ex_revL (h.imp (fun d M1 ⟨xs, hl, hp⟩ => ⟨xs.map f, hl, by rw [← List.map_reverse]; exact hp⟩) fun _ _ x => x)
section
variable {α β γ : Type} {m : Res α} {Q S : α → Prop} {E1 : Er → Prop} {E : XKx} {M : Mem} {ex : Er → Exn}
/-- a value with new lists in it -/
theorem outG (h : m.Out Q E1) (hk : ∀ r, Q r → S r) (hx : ∀ x, E1 x → E (ex x) M) : m.Out S (fun x => UpP E (ex x) M) := out_mono h hk fun x z => UpP.mk (hx x z)
end
/-! ### == of data, a list's cell among them -/
def CD {τ : Type} {E : τ → Dat} [DecidableEq τ] (K : PySem.W.Frag) (M : Mem) (d : Dat) (p : PyE E) (a : τ) : Prop := ∀ G H v, Hst K G M H → Den K G d v → Dp K H v (p.py a)
theorem cdD {τ : Type} {E : τ → Dat} [DecidableEq τ] {K : PySem.W.Frag} {M : Mem} (p : PyE E) (a : τ) : CD K M (E a) p a := fun G H v hH dv => toPy_dp hH.sub _ _ _ dv (p.to a)
theorem cdC {α : Type} {e : α → Dat} [DecidableEq α] {K : PySem.W.Frag} {M : Mem} {q : Addr} (p : PyE e) {xs : List α} (h : (q, MC.lst (xs.map e)) ∈ M) : CD K M (.raw (.ref q)) (pyL p) xs := fun G H v hH dv => cellDp p hH (.inr ⟨q, rfl, h⟩) dv
theorem cdO {τ : Type} {E : τ → Dat} [DecidableEq τ] {K : PySem.W.Frag} {M : Mem} {d : Dat} {p : PyE E} {hn : ∀ a, PyData.eqv (p.py a) .none = false ∧ PyData.eqv .none (p.py a) = false} {a : τ} (h : CD K M d p a) : CD K M d (pyO p hn) (some a) := h
section
variable {X : Cx} {T : Bool} {M : Mem} {P : PK'} {τ : Type} {E : τ → Dat} [DecidableEq τ] {E1 : Er → Prop} {da db : Dat}
theorem r_eqX (p : PyE E) {a b : τ} (ha : CD X.K M da p a) (hb : CD X.K M db p b) (hu : X.A.units + 64 < cLine) {Q : Bool → Prop} (h : (peq p.ok a b).Out Q E1) (hk : ∀ z, Q z → P (.bl z) M) (hd : p.dep ≤ 64 := by decide) : OP X T (compareOp .Eq) da db M P :=
  op_of (op_eqD hu) fun G H v u hH dx dy Q' hP => ⟨_, _, ha _ _ _ hH dx, hb _ _ _ hH dy, p.shaped hd (gd h).1.1, p.shaped hd (gd h).1.2, by rw [p.eqv]; exact hP _ _ _ _ _ (hk _ (gd h).2) Stp.refl hH den_bl⟩
theorem r_neX (p : PyE E) {a b : τ} (ha : CD X.K M da p a) (hb : CD X.K M db p b) (hu : X.A.units + 64 < cLine) {Q : Bool → Prop} (h : (peq p.ok a b).Out Q E1) (hk : ∀ z, Q z → P (.bl (!z)) M) (hd : p.dep ≤ 64 := by decide) : OP X T (compareOp .NotEq) da db M P :=
  op_of (op_neD hu) fun G H v u hH dx dy Q' hP => ⟨_, _, ha _ _ _ hH dx, hb _ _ _ hH dy, p.shaped hd (gd h).1.1, p.shaped hd (gd h).1.2, by rw [p.eqv]; exact hP _ _ _ _ _ (hk _ (gd h).2) Stp.refl hH den_bl⟩
end
/-- isinstance of what may be None -/
theorem c_isiO {X : Cx} {M : Mem} {P : PK'} {α : Type} {e : α → Dat} {o : Option α} {cv : V} {t u : Value} (hc : ClsV cv u) (ht : ∀ x, TyD X.K M (e x) t) (hk : PySem.W.kitOne X.K t u = some true) (hn : PySem.W.kitOne X.K (.type "NoneType") u = some false) (h : P (.bl o.isSome) M) : BC X (.builtin "isinstance") [optD e o, .raw cv] M P := by
  cases o with
  | none => exact c_isi (k := false) hc .non hn h
  | some x => exact c_isi (k := true) hc (ht x) hk h
/-- a field stored, the cell behind A -/
theorem ws_fldA {X : Cx} {T : Bool} {τ : TEnv} {M : Mem} {R : RK} {value o : Expr} {f : Str} {pos pos' : Pos} {rest : List Stmt} (h : EX X false value τ M (fun d M1 => EX X false o τ M1 (fun od M2 => ∃ q C dx fs fs' A B, M2 = A ++ (q, MC.ins C dx fs) :: B ∧ od = .raw (.ref q) ∧ Cls X.K C ∧ NoAttr X.K C f ∧ fs.length < 1000 ∧ putD f d fs = fs' ∧ WS X T rest τ (A ++ (q, .ins C dx fs') :: B) R) (fun x M2 => R (.ex x τ) M2)) (fun x M1 => R (.ex x τ) M1))
    (hs : swapsWith value (some (.Attribute o f pos')) pos.line X.env = pure false := by rfl) : WS X T (.Assign [.Attribute o f pos'] value pos :: rest) τ M R := .mk fun W tk σ G H hE hH D hR => by
  refine ws_step (ps_fld (pe_W (e := o)) (pe_W (e := value)) hs) ?_
  refine h.run W tk σ G H hE hH _ ?_ (ex_out hR hE)
  intro d M1 v G1 H1 ho s1 h1 dv
  refine ho.run W tk σ G1 H1 (hE.up s1.gg) h1 _ ?_ ((ex_out hR hE).step s1)
  rintro od M2 ov G2 H2 ⟨q, C, dx, fs, fs', A, B, rfl, rfl, hc, hn, hl, hf, hw⟩ s2 h2 dov
  subst hf
  obtain ⟨vs, g1, g2, g3⟩ := h2.mem _ (List.mem_append_right _ List.mem_cons_self)
  have hcell : MH X.K G2 (upd H2 q (.ins C dx (putF f v vs))) (q, .ins C dx (putD f d fs)) := by
    have ne : dx ≠ q := fun z => by rw [z, g1] at g2; cases g2
    exact ⟨_, upd_same, by rw [upd_ne ne]; exact g2, denF_put (dv.up s2.gg) g3⟩
  obtain ⟨s3, h3⟩ := hst_put (c' := .ins C dx (putD f d fs)) (H2 := upd H2 q (.ins C dx (putF f v vs))) h2 rfl (fun b hb => upd_ne hb) hcell
  exact ⟨q, C, dx, vs, dov.raw_inv, g1, hc, hn, by rw [g3.length]; exact hl, hw.run W tk σ G2 _ ((hE.up s1.gg).up s2.gg) h3 D (hR.step ((s1.trans s2).trans s3))⟩
/-- None is None; a list is no None -/
theorem o_isNN {X : Cx} {T : Bool} {M : Mem} {P : PK'} (h : P (.bl true) M) : OP X T (compareOp .Is) .non .non M P := o_isN (fun u => by simp) h
theorem o_notNN {X : Cx} {T : Bool} {M : Mem} {P : PK'} (h : P (.bl false) M) : OP X T (compareOp .IsNot) .non .non M P := o_notN (fun u => by simp) h
theorem o_notNA {X : Cx} {T : Bool} {M : Mem} {P : PK'} {x : Dat} (hn : isNoneD x = false) (h : P (.bl true) M) : OP X T (compareOp .IsNot) x .non M P := op_of op_notN fun G H v u hH dx dy Q hP => ⟨dy.non_inv, by rw [isNoneD_ne hn dx]; exact hP _ _ _ _ _ h Stp.refl hH den_bl⟩
end Kh

set_option Elab.async false
set_option linter.all false
set_option maxRecDepth 100000
set_option maxHeartbeats 1000000
namespace Kh
open PySem PySem.Spec L2
/-! ### sorted(a list of ints) -/
def insI (p : Int) : List Int → List Int
  | [] => [p]
  | q :: r => if p ≤ q then p :: q :: r else q :: insI p r
def sortI : List Int → List Int
  | [] => []
  | p :: r => insI p (sortI r)
theorem insI_perm {p : Int} : ∀ {l : List Int}, (insI p l).Perm (p :: l)
  | [] => List.Perm.refl _
  | q :: r => by
    unfold insI
    split
    · exact List.Perm.refl _
    · exact (insI_perm.cons q).trans (List.Perm.swap p q r)
theorem sortI_perm : ∀ {l : List Int}, (sortI l).Perm l
  | [] => List.Perm.refl _
  | p :: r => insI_perm.trans (sortI_perm.cons p)
theorem insI_srt {p : Int} : ∀ {l : List Int}, l.Pairwise (· ≤ ·) → (insI p l).Pairwise (· ≤ ·)
  | [], _ => List.pairwise_singleton _ _
  | q :: r, h => by
    have h1 := List.pairwise_cons.mp h
    unfold insI
    split
    · rename_i c
      exact List.pairwise_cons.mpr ⟨fun x hx => by
        rcases List.mem_cons.mp hx with e | e
        · rw [e]; exact c
        · exact Int.le_trans c (h1.1 x e), h⟩
    · rename_i c
      exact List.pairwise_cons.mpr ⟨fun x hx => by
        rcases List.mem_cons.mp (insI_perm.mem_iff.mp hx) with e | e
        · rw [e]; omega
        · exact h1.1 x e, insI_srt h1.2⟩
theorem sortI_srt : ∀ {l : List Int}, (sortI l).Pairwise (· ≤ ·)
  | [] => List.Pairwise.nil
  | p :: r => insI_srt sortI_srt
theorem srtI_uniq : ∀ {l m : List Int}, l.Pairwise (· ≤ ·) → m.Pairwise (· ≤ ·) → l.Perm m → l = m
  | [], m, _, _, h => (List.nil_perm.mp h).symm
  | a :: l, [], _, _, h => absurd h.length_eq (by simp)
  | a :: l, b :: m, h1, h2, h => by
    have p1 := List.pairwise_cons.mp h1
    have p2 := List.pairwise_cons.mp h2
    have e : a = b := by
      have ha : a ≤ b := by
        rcases List.mem_cons.mp (h.mem_iff.mpr List.mem_cons_self) with e | e
        · omega
        · exact p1.1 b e
      have hb : b ≤ a := by
        rcases List.mem_cons.mp (h.mem_iff.mp List.mem_cons_self) with e | e
        · omega
        · exact p2.1 a e
      omega
    subst e
    rw [srtI_uniq p1.2 p2.2 ((List.perm_cons a).mp h)]
def psrtI (ns : List Int) : Res (List Int) := guard (ns.length ≤ sizeLine) (sortI ns)
section
variable {X : Cx} {M : Mem} {P : PK'} {E1 : Er → Prop}
theorem c_sortI {d : Dat} {ns : List Int} (l : LsD M d (ns.map Dat.int)) {Q : List Int → Prop} (h : (psrtI ns).Out Q E1) (hk : ∀ z, Q z → P (lstD Dat.int z) M) : BC X (.builtin "sorted") [d] M P := bc_of cr_sortedI fun G H vs hH dv Q hP => by
  obtain ⟨v, rfl, dd⟩ := one_inv dv
  obtain ⟨p, us, rfl, g, dl⟩ := l.get hH dd
  rw [dl.ints] at g
  refine ⟨p, ns, rfl, SqL.of g, fun ns' r pm pw hr => ?_⟩
  obtain rfl : ns' = sortI ns := srtI_uniq pw sortI_srt (pm.trans sortI_perm.symm)
  obtain ⟨s2, h2⟩ := Stp.new (o := .lst ((sortI ns).map V.int)) hH hr
  exact hP _ _ _ _ _ (hk _ (gd h).2) s2 h2 (den_lst upd_same denL_ints)
end
end Kh

set_option Elab.async false
set_option linter.all false
set_option maxRecDepth 100000
set_option maxHeartbeats 1000000
namespace Kh
open PySem PySem.Spec L2
open PySem.W (EachIs dataLe AllAlike Sortable)
/-! ### sorted(a list of data), any length -/
/-- data that sorts: all of one shape -/
structure PyS {α : Type} {e : α → Dat} [DecidableEq α] (p : PyE e) : Prop where
  al : ∀ a b, PySem.W.alike (p.py a) (p.py b) = true
  so : (∀ a, ∃ x r, p.py a = .tuple (x :: r)) ∨ ∀ a, p.py a ≠ .none ∧ ∀ xs, p.py a ≠ .tuple xs
theorem pysS : PyS pyS := ⟨fun a b => by simp [pyS, PySem.W.alike], .inr fun a => ⟨fun h => by simp [pyS] at h, fun xs h => by simp [pyS] at h⟩⟩
theorem pysC : PyS pyC := ⟨fun a b => by simp [pyC, PySem.W.alike], .inr fun a => ⟨fun h => by simp [pyC] at h, fun xs h => by simp [pyC] at h⟩⟩
theorem pysI : PyS pyI := ⟨fun a b => by simp [pyI, PySem.W.alike], .inr fun a => ⟨fun h => by simp [pyI] at h, fun xs h => by simp [pyI] at h⟩⟩
theorem pys2 {α β : Type} {e : α → Dat} {f : β → Dat} [DecidableEq α] [DecidableEq β] {p : PyE e} {q : PyE f} (hp : PyS p) (hq : PyS q) : PyS (py2 p q) := ⟨fun a b => by
  simp only [py2, PySem.W.alike, PySem.W.alikeAll, Bool.and_eq_true]; exact ⟨hp.al _ _, hq.al _ _, trivial⟩, .inl fun a => ⟨_, _, rfl⟩⟩
def leD {α : Type} {e : α → Dat} [DecidableEq α] (p : PyE e) : α → α → Bool := dataLe false p.py
def psrtD {α : Type} {e : α → Dat} [DecidableEq α] (p : PyE e) (xs : List α) : Res (List α) := guard (xs.length ≤ sizeLine) (xs.mergeSort (leD p))
section
variable {X : Cx} {M : Mem} {P : PK'} {E1 : Er → Prop} {α : Type} {e : α → Dat} [DecidableEq α]
theorem each_den {K : PySem.W.Frag} {G : Hp} : ∀ {xs : List α} {ws : List V} {us : List Value}, DenL K G (xs.map e) ws → Vals ws us → EachIs (fun u b => ∃ x, RelV x u ∧ Den K G (e b) x) us xs
  | [], _, _, h, r => by
    rw [h.nil_inv] at r
    cases r
    exact .nil
  | x :: xs, _, _, h, r => by
    obtain ⟨v, ws, rfl, h1, h2⟩ := h.cons_inv
    cases r with
    | cons r1 r2 => exact .cons ⟨v, r1, h1⟩ (each_den h2 r2)
theorem den_each {K : PySem.W.Frag} {G : Hp} : ∀ {xs : List α} {us : List Value}, EachIs (fun u b => ∃ x, RelV x u ∧ Den K G (e b) x) us xs → ∃ ws, Vals ws us ∧ DenL K G (xs.map e) ws
  | [], _, h => by cases h; exact ⟨[], .nil, .nil⟩
  | x :: xs, _, h => by
    cases h with
    | cons h1 h2 =>
      obtain ⟨v, r, d⟩ := h1
      obtain ⟨ws, rs, ds⟩ := den_each h2
      exact ⟨v :: ws, .cons r rs, .cons d ds⟩
theorem each_reads {K : PySem.W.Frag} {G : Hp} {R : Value → α → Prop} : ∀ {xs : List α} {us : List Value}, EachIs (fun u b => ∃ x, RelV x u ∧ Den K G (e b) x) us xs → (∀ u b, (∃ x, RelV x u ∧ Den K G (e b) x) → R u b) → EachIs R us xs
  | [], _, h, _ => by cases h; exact .nil
  | x :: xs, _, h, f => by
    cases h with
    | cons h1 h2 => exact .cons (f _ _ h1) (each_reads h2 f)
def rSortD (K : PySem.W.Frag) (p : PyE e) : List V → Hp → VK → Prop := fun vs H Q => ∃ (a : Addr) (ws : List V) (G : Hp) (xs : List α), vs = [.ref a] ∧ SqL K H a ws ∧ Same G H ∧ DenL K G (xs.map e) ws ∧
  ∀ ws' q, H q = none → DenL K G ((xs.mergeSort (leD p)).map e) ws' → Q (.ref q) (upd H q (.lst ws'))
theorem cr_sortD (p : PyE e) (hs : PyS p) (hd : p.dep ≤ 60) (hu : X.A.units + 64 < cLine) : CallR X (.builtin "sorted") (rSortD X.K p) := by
  intro pins s σ H vs us Q I r h
  obtain ⟨a, ws, G, xs, rfl, hq, sm, dl, q⟩ := h
  obtain ⟨its, rv, hl, hz⟩ := I.list hq
  rw [Vals.ref1 r]
  have en := each_den dl rv
  have hlen : its.length = xs.length := by rw [← rv.length, dl.length, List.length_map]
  refine PySem.W.sorted_data (vs := its) (bs := xs) (enc := p.py) (R := fun u b => ∃ x, RelV x u ∧ Den X.K G (e b) x) hl.isList en (each_reads en fun u b ⟨x, rx, dx⟩ => Dp.reads I (p.py b) x u (toPy_dp sm _ _ _ dx (p.to b)) rx) ?_ ?_ (by rw [← hlen, ← rv.length]; exact hz) (fun b _ => by have := p.dp b; omega) fun out ho eo => ?_
  · intro d hd d' hd'
    obtain ⟨b, _, rfl⟩ := List.mem_map.mp hd
    obtain ⟨b', _, rfl⟩ := List.mem_map.mp hd'
    exact hs.al b b'
  · rcases hs.so with h | h
    · exact .inl fun d hd => by
        obtain ⟨b, _, rfl⟩ := List.mem_map.mp hd
        exact h b
    · exact .inr fun d hd => by
        obtain ⟨b, _, rfl⟩ := List.mem_map.mp hd
        exact h b
  · obtain ⟨ws', rs, ds⟩ := den_each eo
    obtain ⟨ep, he'⟩ := PyProof.Rows.sortedAll_at s.heap its out.toArray
    have hz' : ws'.length ≤ sizeLine := by rw [rs.length, ho, ← hlen, ← rv.length]; exact hz
    exact ⟨.ref _, upd H (s.heap.objs.size + 1) (.lst ws'), I.laid (t' := s.toks) (fun _ _ => PyProof.Rows.sortedAll_old) (Nat.le_succ _) ⟨hz', out, ep, rs, he'⟩, rfl, q _ _ (I.hok.fresh (Nat.le_succ _)) ds⟩
theorem c_sortD (p : PyE e) (hs : PyS p) {d : Dat} {xs : List α} (l : LsD M d (xs.map e)) (hu : X.A.units + 64 < cLine) {Q : List α → Prop} (h : (psrtD p xs).Out Q E1) (hk : ∀ z, Q z → P (lstD e z) M) (hd : p.dep ≤ 60 := by decide) : BC X (.builtin "sorted") [d] M P := bc_of (cr_sortD p hs hd hu) fun G H vs hH dv Q' hP => by
  obtain ⟨v, rfl, dd⟩ := one_inv dv
  obtain ⟨c, us, rfl, g, dl⟩ := l.get hH dd
  refine ⟨c, us, G, xs, rfl, SqL.of g, hH.sub, dl, fun ws' r hr dl' => ?_⟩
  obtain ⟨s2, h2⟩ := Stp.new (o := .lst ws') hH hr
  exact hP _ _ _ _ _ (hk _ (gd h).2) s2 h2 (den_lst upd_same (dl'.up s2.gg))
end
/-! ### dicts by texts that change -/
def dicD {β : Type} (f : β → Dat) (ds : List (Str × β)) : List (Key × Dat) := ds.map fun p => (.inr p.1, f p.2)
def dget {β : Type} (ds : List (Str × β)) (k : Str) : Option β := (ds.find? fun p => decide (p.1 = k)).map (·.2)
def dput {β : Type} (ds : List (Str × β)) (k : Str) (v : β) : List (Str × β) := if (dget ds k).isSome then ds.map fun p => if p.1 = k then (p.1, v) else p else ds ++ [(k, v)]
theorem dic_get {K : PySem.W.Frag} {G : Hp} {β : Type} {f : β → Dat} {k : Str} : ∀ {ds : List (Str × β)} {vs : List (Key × V)}, DenF K G (dicD f ds) vs → match dget ds k with
    | none => valV vs (.inr k) = none
    | some x => ∃ v, valV vs (.inr k) = some v ∧ Den K G (f x) v
  | [], vs, h => by
    have : vs = [] := by simpa [dicD] using h.1
    subst this; rfl
  | (a, x) :: ds, vs, h => by
    obtain ⟨h1, h2⟩ := h
    cases vs with
    | nil => simp [dicD] at h1
    | cons w vs =>
      have e1 : w.1 = .inr a := by simp [dicD] at h1; exact h1.1
      have h1' : vs.map (·.1) = (dicD f ds).map (·.1) := by simp [dicD] at h1 ⊢; exact h1.2
      obtain ⟨v, r, ev, d1, d2⟩ := h2.cons_inv
      simp only [List.map_cons, List.cons.injEq] at ev
      obtain ⟨ev1, ev2⟩ := ev
      rw [← ev2] at d2
      by_cases e : a = k
      · subst e
        have : dget ((a, x) :: ds) a = some x := by simp [dget]
        rw [this]
        exact ⟨w.2, valV_pos e1, by rw [ev1]; exact d1⟩
      · have : dget ((a, x) :: ds) k = dget ds k := by simp [dget, List.find?_cons, e]
        rw [this]
        have n1 : ¬ w.1 = .inr k := by rw [e1]; intro z; injection z with z; exact e z
        rw [valV_neg n1]
        exact dic_get ⟨h1', d2⟩
theorem denF_len {K : PySem.W.Frag} {G : Hp} {κ : Type} {fs : List (κ × Dat)} {vs : List (κ × V)} (h : DenF K G fs vs) : vs.length = fs.length := by
  have := congrArg List.length h.1
  simpa using this
/-- a key put into a dict -/
def putKD (kvs : List (Key × Dat)) (k : Key) (d : Dat) : List (Key × Dat) := if (kvs.any fun kv => decide (kv.1 = k)) then kvs.map fun kv => if kv.1 = k then (kv.1, d) else kv else kvs ++ [(k, d)]
theorem denF_any {K : PySem.W.Frag} {G : Hp} {k : Key} : ∀ {fs : List (Key × Dat)} {vs : List (Key × V)}, DenF K G fs vs → (fs.any fun kv => decide (kv.1 = k)) = vs.any fun kv => decide (kv.1 = k)
  | [], vs, h => by
    have : vs = [] := by simpa using h.1
    subst this; rfl
  | f :: fs, vs, h => by
    obtain ⟨h1, h2⟩ := h
    cases vs with
    | nil => simp at h1
    | cons w vs =>
      obtain ⟨v, r, ev, d1, d2⟩ := h2.cons_inv
      simp only [List.map_cons, List.cons.injEq] at h1 ev
      rw [List.any_cons, List.any_cons, h1.1, denF_any (k := k) (fs := fs) (vs := vs) ⟨h1.2, by rw [ev.2]; exact d2⟩]
theorem denF_putK {K : PySem.W.Frag} {G : Hp} {k : Key} {d : Dat} {v : V} (dv : Den K G d v) {fs : List (Key × Dat)} {vs : List (Key × V)} (h : DenF K G fs vs) : DenF K G (putKD fs k d) (putK vs k v) := by
  have repl : ∀ {fs : List (Key × Dat)} {vs : List (Key × V)}, DenF K G fs vs → DenF K G (fs.map fun kv => if kv.1 = k then (kv.1, d) else kv) (vs.map fun kv => if kv.1 = k then (kv.1, v) else kv) := by
    intro fs
    induction fs with
    | nil =>
      intro vs h
      have : vs = [] := by simpa using h.1
      subst this; exact ⟨rfl, .nil⟩
    | cons f fs ih =>
      intro vs h
      obtain ⟨h1, h2⟩ := h
      cases vs with
      | nil => simp at h1
      | cons w vs =>
        obtain ⟨u, r, ev, d1, d2⟩ := h2.cons_inv
        simp only [List.map_cons, List.cons.injEq] at h1 ev
        obtain ⟨i1, i2⟩ := ih ⟨h1.2, by rw [ev.2]; exact d2⟩
        by_cases e : f.1 = k
        · have e' : w.1 = k := by rw [h1.1]; exact e
          refine ⟨?_, ?_⟩
          · simp only [List.map_cons, if_pos e, if_pos e', List.cons.injEq]; exact ⟨h1.1, i1⟩
          · simp only [List.map_cons, if_pos e, if_pos e']; exact .cons dv i2
        · have e' : ¬ w.1 = k := by rw [h1.1]; exact e
          refine ⟨?_, ?_⟩
          · simp only [List.map_cons, if_neg e, if_neg e', List.cons.injEq]; exact ⟨h1.1, i1⟩
          · simp only [List.map_cons, if_neg e, if_neg e']; exact .cons (by rw [ev.1]; exact d1) i2
  unfold putKD putK
  rw [denF_any h]
  split
  · exact repl h
  · refine ⟨?_, ?_⟩
    · simp only [List.map_append, h.1]; rfl
    · simp only [List.map_append]; exact h.2.append (.cons dv .nil)
theorem putKD_dic {β : Type} {f : β → Dat} {k : Str} {v : β} : ∀ {ds : List (Str × β)}, putKD (dicD f ds) (.inr k) (f v) = dicD f (dput ds k v) := by
  intro ds
  have ha : (dicD f ds).any (fun kv => decide (kv.1 = .inr k)) = (dget ds k).isSome := by
    unfold dget
    induction ds with
    | nil => rfl
    | cons p ds ih =>
      have ih : (dicD f ds).any (fun kv => decide (kv.1 = .inr k)) = ((ds.find? fun p => decide (p.1 = k)).map (·.2)).isSome := ih
      show (decide ((Sum.inr p.1 : Key) = .inr k) || (dicD f ds).any fun kv => decide (kv.1 = .inr k)) = _
      rw [ih, List.find?_cons]
      by_cases e : p.1 = k
      · rw [decide_eq_true (by rw [e]), decide_eq_true e]; rfl
      · rw [decide_eq_false (fun z => e (by injection z)), decide_eq_false e]; rfl
  unfold putKD dput
  rw [ha]
  split
  · unfold dicD
    rw [List.map_map, List.map_map]
    refine List.map_congr_left fun p _ => ?_
    show (if (Sum.inr p.1 : Key) = .inr k then _ else _) = _
    by_cases e : p.1 = k
    · rw [if_pos (by rw [e])]; simp [e]
    · rw [if_neg (fun z => e (by injection z))]; simp [e]
  · unfold dicD; simp
section
variable {X : Cx} {T : Bool} {τ : TEnv} {M : Mem} {P : PK'} {E : XKx} {e o i value : Expr} {rest : List Stmt} {R : RK} {pos p pos' cpos apos tpos : Pos} {E1 : Er → Prop} {β : Type}
/-- {} as a cell -/
theorem ex_dicC (h : ∀ q, P (.raw (.ref q)) ((q, .dic []) :: M)) : EX X T (.Dict [] [] pos) τ M P E := .mk fun W tk σ G H hE hH Q hP hX => tW_of pe_dnewK fun p hp => by
  obtain ⟨s2, h2⟩ := newC (o := .dK []) (c := .dic []) hH hp rfl ⟨[], upd_same, rfl, .nil⟩
  exact hP _ _ _ _ _ (h p) s2 h2 den_raw
/-- in a dict -/
def rDN : R2 := fun x y H Q => ∃ a o, y = .ref a ∧ DGet H a x o ∧ Q (.bl (!o.isSome)) H
def rDI : R2 := fun x y H Q => ∃ a o, y = .ref a ∧ DGet H a x o ∧ Q (.bl o.isSome) H
theorem op_DN (hu : X.A.units + 1 < cLine) : OpR X (compareOp .NotIn) rDN := by
  intro pins s σ H x y v u Q I rx ry h
  obtain ⟨a, o, rfl, g, q⟩ := h
  obtain rfl : u = Value.ref a := ry
  exact d_notIn hu I g rx fun s3 I3 => ⟨.bl (!o.isSome), H, I3, rfl, q⟩
theorem op_DI (hu : X.A.units + 1 < cLine) : OpR X (compareOp .In) rDI := by
  intro pins s σ H x y v u Q I rx ry h
  obtain ⟨a, o, rfl, g, q⟩ := h
  obtain rfl : u = Value.ref a := ry
  exact d_in hu I g rx fun s3 I3 => ⟨.bl o.isSome, H, I3, rfl, q⟩
theorem valV_some {K : PySem.W.Frag} {G : Hp} {f : β → Dat} {k : Str} {ds : List (Str × β)} {vs : List (Key × V)} (h : DenF K G (dicD f ds) vs) : (valV vs (.inr k)).isSome = (dget ds k).isSome := by
  have := dic_get (k := k) h
  cases e : dget ds k with
  | none => rw [e] at this; simp only at this; rw [this]; rfl
  | some x => rw [e] at this; obtain ⟨v, e2, _⟩ := this; rw [e2]; rfl
theorem o_notInDic (f : β → Dat) {ds : List (Str × β)} {k : Str} {q : Addr} (hu : X.A.units + 64 < cLine) (hm : (q, MC.dic (dicD f ds)) ∈ M) (h : P (.bl (!(dget ds k).isSome)) M) : OP X T (compareOp .NotIn) (.str k) (.raw (.ref q)) M P :=
  op_of (op_DN (by omega)) fun G H v u hH dx dy Q hP => by
    obtain ⟨vs, g, df⟩ := hH.mem _ hm
    obtain rfl := dx.str_inv
    obtain rfl := dy.raw_inv
    refine ⟨q, _, rfl, DGet.k (k := .inr k) g, ?_⟩
    rw [valV_some df]
    exact hP _ _ _ _ _ h Stp.refl hH den_bl
theorem o_inDic (f : β → Dat) {ds : List (Str × β)} {k : Str} {q : Addr} (hu : X.A.units + 64 < cLine) (hm : (q, MC.dic (dicD f ds)) ∈ M) (h : P (.bl (dget ds k).isSome) M) : OP X T (compareOp .In) (.str k) (.raw (.ref q)) M P :=
  op_of (op_DI (by omega)) fun G H v u hH dx dy Q hP => by
    obtain ⟨vs, g, df⟩ := hH.mem _ hm
    obtain rfl := dx.str_inv
    obtain rfl := dy.raw_inv
    refine ⟨q, _, rfl, DGet.k (k := .inr k) g, ?_⟩
    rw [valV_some df]
    exact hP _ _ _ _ _ h Stp.refl hH den_bl
/-- d[k] = v -/
def pdput (ds : List (Str × β)) (k : Str) (v : β) : Res (List (Str × β)) := guard (ds.length < sizeLine) (dput ds k v)
theorem ws_dput (f : β → Dat) (hu : X.A.units + 64 < cLine) (h : EX X false value τ M (fun d M1 => EX X false o τ M1 (fun od M2 => EX X false i τ M2 (fun id M3 => ∃ (q : Addr) (ds : List (Str × β)) (k : Str) (v : β) (A B : Mem) (Q : List (Str × β) → Prop) (E1 : Er → Prop), d = f v ∧ od = .raw (.ref q) ∧ id = .str k ∧ M3 = A ++ (q, MC.dic (dicD f ds)) :: B ∧ (pdput ds k v).Out Q E1 ∧
      ∀ ds', Q ds' → WS X T rest τ (A ++ (q, .dic (dicD f ds')) :: B) R) (fun x M2 => R (.ex x τ) M2)) (fun x M2 => R (.ex x τ) M2)) (fun x M1 => R (.ex x τ) M1))
    (hs : swapsWith value (some (.Subscript o i pos')) pos.line X.env = pure false := by rfl) : WS X T (.Assign [.Subscript o i pos'] value pos :: rest) τ M R := .mk fun W tk σ G H hE hH D hR => by
  refine ws_step (ps_dput (by omega : X.A.units + 1 < cLine) (pe_W (e := o)) (pe_W (e := i)) (pe_W (e := value)) hs) ?_
  refine h.run W tk σ G H hE hH _ ?_ (ex_out hR hE)
  intro d M1 v G1 H1 ho s1 h1 dv
  refine ho.run W tk σ G1 H1 (hE.up s1.gg) h1 _ ?_ ((ex_out hR hE).step s1)
  intro od M2 ov G2 H2 hi s2 h2 dov
  refine hi.run W tk σ G2 H2 ((hE.up s1.gg).up s2.gg) h2 _ ?_ (((ex_out hR hE).step s1).step s2)
  rintro id M3 iv G3 H3 ⟨q, ds, k, x, A, B, Q, E1, rfl, rfl, rfl, rfl, hg, hw⟩ s3 h3 div
  obtain ⟨vs, g, df⟩ := h3.mem _ (List.mem_append_right _ List.mem_cons_self)
  have hl := (gd hg).1
  have dv3 := (dv.up s2.gg).up s3.gg
  have hcell : MH X.K G3 (upd H3 q (.dK (putK vs (.inr k) v))) (q, .dic (dicD f (dput ds k x))) := ⟨_, upd_same, by rw [← putKD_dic]; exact denF_putK dv3 df⟩
  obtain ⟨s4, h4⟩ := hst_put (c' := .dic (dicD f (dput ds k x))) (H2 := upd H3 q (.dK (putK vs (.inr k) v))) h3 rfl (fun b hb => upd_ne hb) hcell
  refine ⟨q, upd H3 q (.dK (putK vs (.inr k) v)), (dov.up s3.gg).raw_inv, ?_, (hw _ (gd hg).2).run W tk σ G3 _ (((hE.up s1.gg).up s2.gg).up s3.gg) h4 D (hR.step (((s1.trans s2).trans s3).trans s4))⟩
  rw [div.str_inv]
  exact DPut.k (k := .inr k) g (by rw [denF_len df]; unfold dicD; rw [List.length_map]; exact hl)
/-- a dict that is changed no more, walked by its items -/
theorem lockD {K : PySem.W.Frag} {G H : Hp} {A B : Mem} {q : Addr} {kvs : List (Key × Dat)} {vs : List (Key × V)} {od : Obj} (h : Hst K G (A ++ (q, .dic kvs) :: B) H) (g : H q = some (.dK vs)) :
    Stp G (A ++ (q, .dic kvs) :: B) H (upd G q (.frz od (.dK vs))) (A ++ B) (upd H q (.frz od (.dK vs))) ∧ Hst K (upd G q (.frz od (.dK vs))) (A ++ B) (upd H q (.frz od (.dK vs))) := by
  have hq : q ∈ adr (A ++ (q, .dic kvs) :: B) := List.mem_flatMap.mpr ⟨_, List.mem_append_right _ List.mem_cons_self, List.mem_cons_self⟩
  have gq : G q = none := h.out q hq
  have had : adr (A ++ (q, .dic kvs) :: B) = adr A ++ q :: adr B := by simp [adr, adr1]
  have had2 : adr (A ++ B) = adr A ++ adr B := by simp [adr]
  have nd := h.nd
  rw [had] at nd
  have nq : q ∉ adr (A ++ B) := by
    rw [had2]
    have := (List.perm_middle (l₁ := adr A) (a := q) (l₂ := adr B)).nodup_iff.mp nd
    exact (List.nodup_cons.mp this).1
  have sub : ∀ b ∈ adr (A ++ B), b ∈ adr (A ++ (q, .dic kvs) :: B) := fun b hb => by
    rw [had2] at hb
    rw [had]
    rcases List.mem_append.mp hb with h | h
    · exact List.mem_append_left _ h
    · exact List.mem_append_right _ (List.mem_cons_of_mem _ h)
  refine ⟨⟨fun b o e => ?_, fun b o n e => ?_, fun b hb n gb => ?_, fun b hb => .inl (sub b hb)⟩, ⟨fun b o e => ?_, fun c hc => ?_, fun b hb => ?_, ?_⟩⟩
  · rw [upd_ne (fun z => by rw [z, gq] at e; cases e)]; exact e
  · rw [upd_ne (fun z => n (by rw [z]; exact hq))]; exact e
  · rw [upd_ne (fun z => n (by rw [z]; exact hq))]; exact gb
  · by_cases z : b = q
    · subst z; rw [upd_same] at e ⊢; exact e
    · rw [upd_ne z] at e ⊢; exact h.sub b o e
  · have hc' : c ∈ A ++ (q, .dic kvs) :: B := by
      rcases List.mem_append.mp hc with h | h
      · exact List.mem_append_left _ h
      · exact List.mem_append_right _ (List.mem_cons_of_mem _ h)
    refine (h.mem c hc').up (fun b o e => ?_) fun b hb o e => ?_
    · rw [upd_ne (fun z => by rw [z, gq] at e; cases e)]; exact e
    · rw [upd_ne (fun z => nq (by rw [← z]; exact List.mem_flatMap.mpr ⟨c, hc, hb⟩))]; exact e
  · rw [upd_ne (fun z => nq (by rw [← z]; exact hb))]
    exact h.out b (sub b hb)
  · rw [had2]
    have := (List.perm_middle (l₁ := adr A) (a := q) (l₂ := adr B)).nodup_iff.mp nd
    exact (List.nodup_cons.mp this).2
theorem walkD_items {K : PySem.W.Frag} {G1 : Hp} {f : β → Dat} {ds : List (Str × β)} {vs : List (Key × V)} {q : Addr} {od : Obj} (hq : G1 q = some (.frz od (.dK vs))) (hd : DenF K G1 (dicD f ds) vs) : WalkD K (Iti q od vs) (ds.map (pairD Dat.str f)) G1 anyM := fun G2 M2 H2 s h _ => by
  have hq2 : H2 q = some (.frz od (.dK vs)) := h.sub _ _ (s _ _ hq)
  have hl : vs.length = ds.length := by rw [denF_len hd]; unfold dicD; rw [List.length_map]
  rw [List.length_map]
  refine ⟨fun i hi => ⟨hq2, by omega⟩, ⟨hq2, by omega⟩, fun i x H' hi y => ?_⟩
  obtain ⟨T, k, v, e, rfl, hT, rfl⟩ := y
  obtain ⟨s3, h3⟩ := Stp.new (o := .tup [kV k, v]) h hT
  refine ⟨_, s3, h3, fun d hd' => ?_⟩
  rw [List.getElem?_map] at hd'
  obtain ⟨p, hp, rfl⟩ := Option.map_eq_some_iff.mp hd'
  have hk : k = .inr p.1 := by
    have h1 := congrArg (fun l => l[i]?) hd.1
    simp only [List.getElem?_map, e, dicD, hp, Option.map_some] at h1
    exact Option.some.inj h1
  have hv : Den K G1 (f p.2) v := by
    obtain ⟨u, u1, u2⟩ := hd.2.get (i := i) (d := f p.2) (by simp [dicD, hp])
    rw [List.getElem?_map, e] at u1
    cases u1
    exact u2
  subst hk
  exact den_tup upd_same (.cons den_str (.cons ((hv.up s).up s3.gg) .nil))
/-- a dict told by an expression, locked -/
theorem pe_lock : PE X e (fun σ H Q => tW X false e σ H fun x H1 => ∃ q vs, x = .ref q ∧ H1 q = some (.dK vs) ∧ ∀ od, Q x (upd H1 q (.frz od (.dK vs)))) := ⟨fun pins s σ H Q I h => thn (h pins s tk_f I) fun v s1 ⟨x, H1, I1, r1, q, vs, ex, g, k⟩ => by
  obtain ⟨od, I2⟩ := I1.lock g trivial
  exact ⟨x, _, I2, r1, k od⟩⟩
theorem ei_items {elts : List Expr} {kk : Nat} {PI' : List Dat → Mem → (Mem → Prop) → Prop} (f : β → Dat) (h : EX X false e τ M (fun d M1 => ∃ (q : Addr) (ds : List (Str × β)) (A B : Mem), d = .raw (.ref q) ∧ M1 = A ++ (q, MC.dic (dicD f ds)) :: B ∧ PI' (ds.map (pairD Dat.str f)) (A ++ B) anyM) E) (hbase : attributeBase e "items" X.env (eval e X.env) = eval e X.env := by rfl) (hline : (apos.endLine == cpos.line) = true := by rfl) :
    EI X (.Tuple elts kk tpos) (.Call (.Attribute e "items" apos) [] [] cpos) τ M PI' E := .mk fun W tk σ G H hE hH R hR hX => by
  refine tWI_of (pi_items pe_lock hbase hline) ?_
  refine h.run W tk σ G H hE hH _ (fun d M1 v G1 H1 ⟨q, ds, A, B, ed, em, hp⟩ s1 h1 dv => ?_) hX
  subst ed em
  obtain ⟨vs, g, df⟩ := h1.mem _ (List.mem_append_right _ List.mem_cons_self)
  refine ⟨q, vs, dv.raw_inv, g, fun od => ?_⟩
  obtain ⟨s2, h2⟩ := lockD (od := od) h1 g
  exact ⟨q, od, vs, dv.raw_inv, upd_same, hR _ _ _ _ _ _ hp (s1.trans s2) h2 (walkD_items upd_same (df.up s2.gg))⟩
end
theorem un65 {k : Nat} {A : Around} (r : Room k A) : A.units + 65 < cLine := by have := r.un; omega
/-! ### x += e, x -= e of ints -/
section
variable {X : Cx} {T : Bool} {τ : TEnv} {M : Mem} {e : Expr} {rest : List Stmt} {R : RK} {pos p : Pos} {x : Str} {i : Int}
theorem ws_augAdd (h0 : τ[ixIn X.N x]? = some (some (.int i))) (h : EX X false e τ M (fun d M1 => ∃ j, d = .int j ∧ WS X T rest (τ.set (ixIn X.N x) (some (.int (i + j)))) M1 R) (fun x M1 => R (.ex x τ) M1))
    (hi : X.N[ixIn X.N x]? = some x := by rfl) (hx : Loc X.env.scope x := by first | exact Or.inl rfl | exact Or.inr rfl) (hN : X.N.Nodup := by first | decide +kernel | exact of_decide_eq_true (by kernel_rfl)) (hf : X.fn x = true ∨ X.env.scope.names.lookup x = some .local := by first | exact .inl rfl | exact .inr rfl | assumption) :
    WS X T (.AugAssign (.Name x p) .Add e pos :: rest) τ M R := .mk fun W tk σ G H hE hH D hR => tWSs_len fun hl => by
  refine ws_step (ps_aug hN hi hx pe_W iop_add hf) ?_
  obtain ⟨v, e1, d1⟩ := hE _ _ h0
  refine ⟨v, e1, ?_⟩
  refine h.run W tk σ G H hE hH _ (fun d M2 u G2 H2 ⟨j, ed, r⟩ s h2 dv => ?_) (ex_out hR hE)
  subst ed
  have hlt : ixIn X.N x < σ.length := by rw [hl]; exact (List.getElem?_eq_some_iff.mp hi).1
  exact ⟨i, j, d1.int_inv, dv.int_inv, r.run W tk _ G2 H2 ((hE.up s.gg).set hlt den_int) h2 D (hR.step s)⟩
theorem ws_augSub (h0 : τ[ixIn X.N x]? = some (some (.int i))) (h : EX X false e τ M (fun d M1 => ∃ j, d = .int j ∧ WS X T rest (τ.set (ixIn X.N x) (some (.int (i - j)))) M1 R) (fun x M1 => R (.ex x τ) M1))
    (hi : X.N[ixIn X.N x]? = some x := by rfl) (hx : Loc X.env.scope x := by first | exact Or.inl rfl | exact Or.inr rfl) (hN : X.N.Nodup := by first | decide +kernel | exact of_decide_eq_true (by kernel_rfl)) (hf : X.fn x = true ∨ X.env.scope.names.lookup x = some .local := by first | exact .inl rfl | exact .inr rfl | assumption) :
    WS X T (.AugAssign (.Name x p) .Sub e pos :: rest) τ M R := .mk fun W tk σ G H hE hH D hR => tWSs_len fun hl => by
  refine ws_step (ps_aug hN hi hx pe_W iop_sub hf) ?_
  obtain ⟨v, e1, d1⟩ := hE _ _ h0
  refine ⟨v, e1, ?_⟩
  refine h.run W tk σ G H hE hH _ (fun d M2 u G2 H2 ⟨j, ed, r⟩ s h2 dv => ?_) (ex_out hR hE)
  subst ed
  have hlt : ixIn X.N x < σ.length := by rw [hl]; exact (List.getElem?_eq_some_iff.mp hi).1
  exact ⟨i, j, d1.int_inv, dv.int_inv, r.run W tk _ G2 H2 ((hE.up s.gg).set hlt den_int) h2 D (hR.step s)⟩
end
end Kh

set_option Elab.async false
set_option linter.all false
set_option maxRecDepth 100000
set_option maxHeartbeats 2000000
namespace Kh
open PySem PySem.Spec L2
open PySem.W (Frag ksFn)
def top (i : Nat) : Stmt := PySem.Challenge.pw_keptholes_k63_whole_writes_seen_in_part.main.body.getD i (.Pass ⟨0, 0, 0, 0⟩)
abbrev s_is_whole : Stmt := top 9
abbrev N_is_whole : List Str := ["value"]
abbrev P_is_whole : List Str := ["value"]
theorem sc_is_whole : FnScope N_is_whole P_is_whole (defScope s_is_whole) := ⟨rfl, rfl, rfl, by decide +kernel, rfl, by decide +kernel, by decide +kernel⟩
abbrev s_check_least : Stmt := top 10
abbrev N_check_least : List Str := ["value", "least"]
abbrev P_check_least : List Str := ["value", "least"]
theorem sc_check_least : FnScope N_check_least P_check_least (defScope s_check_least) := ⟨rfl, rfl, rfl, by decide +kernel, rfl, by decide +kernel, by decide +kernel⟩
abbrev s_check_within : Stmt := top 11
abbrev N_check_within : List Str := ["value", "first", "last"]
abbrev P_check_within : List Str := ["value", "first", "last"]
theorem sc_check_within : FnScope N_check_within P_check_within (defScope s_check_within) := ⟨rfl, rfl, rfl, by decide +kernel, rfl, by decide +kernel, by decide +kernel⟩
abbrev s_are_cells : Stmt := top 14
abbrev N_are_cells : List Str := ["value", "cell"]
abbrev P_are_cells : List Str := ["value"]
theorem sc_are_cells : FnScope N_are_cells P_are_cells (defScope s_are_cells) := ⟨rfl, rfl, rfl, by decide +kernel, rfl, by decide +kernel, by decide +kernel⟩
abbrev s_is_content : Stmt := top 15
abbrev N_is_content : List Str := ["value", "cell"]
abbrev P_is_content : List Str := ["value"]
theorem sc_is_content : FnScope N_is_content P_is_content (defScope s_is_content) := ⟨rfl, rfl, rfl, by decide +kernel, rfl, by decide +kernel, by decide +kernel⟩
abbrev s_check_file : Stmt := top 17
abbrev N_check_file : List Str := ["value"]
abbrev P_check_file : List Str := ["value"]
theorem sc_check_file : FnScope N_check_file P_check_file (defScope s_check_file) := ⟨rfl, rfl, rfl, by decide +kernel, rfl, by decide +kernel, by decide +kernel⟩
abbrev s_blocks_of : Stmt := top 19
abbrev N_blocks_of : List Str := ["cells", "size", "at"]
abbrev P_blocks_of : List Str := ["cells", "size"]
theorem sc_blocks_of : FnScope N_blocks_of P_blocks_of (defScope s_blocks_of) := ⟨rfl, rfl, rfl, by decide +kernel, rfl, by decide +kernel, by decide +kernel⟩
abbrev s_is_write : Stmt := top 21
abbrev N_is_write : List Str := ["value", "length"]
abbrev P_is_write : List Str := ["value", "length"]
theorem sc_is_write : FnScope N_is_write P_is_write (defScope s_is_write) := ⟨rfl, rfl, rfl, by decide +kernel, rfl, by decide +kernel, by decide +kernel⟩
abbrev s_check_write : Stmt := top 22
abbrev N_check_write : List Str := ["value", "length"]
abbrev P_check_write : List Str := ["value", "length"]
theorem sc_check_write : FnScope N_check_write P_check_write (defScope s_check_write) := ⟨rfl, rfl, rfl, by decide +kernel, rfl, by decide +kernel, by decide +kernel⟩
abbrev s_written : Stmt := top 23
abbrev N_written : List Str := ["row", "begin", "text"]
abbrev P_written : List Str := ["row", "begin", "text"]
theorem sc_written : FnScope N_written P_written (defScope s_written) := ⟨rfl, rfl, rfl, by decide +kernel, rfl, by decide +kernel, by decide +kernel⟩
abbrev s_check_history : Stmt := top 25
abbrev N_check_history : List Str := ["value"]
abbrev P_check_history : List Str := ["value"]
theorem sc_check_history : FnScope N_check_history P_check_history (defScope s_check_history) := ⟨rfl, rfl, rfl, by decide +kernel, rfl, by decide +kernel, by decide +kernel⟩
abbrev s_check_asked : Stmt := top 27
abbrev N_check_asked : List Str := ["history", "size"]
abbrev P_check_asked : List Str := ["history", "size"]
theorem sc_check_asked : FnScope N_check_asked P_check_asked (defScope s_check_asked) := ⟨rfl, rfl, rfl, by decide +kernel, rfl, by decide +kernel, by decide +kernel⟩
abbrev s_columns_of : Stmt := top 28
abbrev N_columns_of : List Str := ["states", "size", "rows", "state", "at", "row"]
abbrev P_columns_of : List Str := ["states", "size"]
theorem sc_columns_of : FnScope N_columns_of P_columns_of (defScope s_columns_of) := ⟨rfl, rfl, rfl, by decide +kernel, rfl, by decide +kernel, by decide +kernel⟩
abbrev s_columns_along : Stmt := top 29
abbrev N_columns_along : List Str := ["states", "size", "down"]
abbrev P_columns_along : List Str := ["states", "size", "down"]
theorem sc_columns_along : FnScope N_columns_along P_columns_along (defScope s_columns_along) := ⟨rfl, rfl, rfl, by decide +kernel, rfl, by decide +kernel, by decide +kernel⟩
abbrev s_readings : Stmt := top 30
abbrev N_readings : List Str := ["column", "t", "found", "at", "text"]
abbrev P_readings : List Str := ["column", "t"]
theorem sc_readings : FnScope N_readings P_readings (defScope s_readings) := ⟨rfl, rfl, rfl, by decide +kernel, rfl, by decide +kernel, by decide +kernel⟩
abbrev s_counts_of : Stmt := top 31
abbrev N_counts_of : List Str := ["columns", "places", "found", "column", "t", "text", "at"]
abbrev P_counts_of : List Str := ["columns", "places"]
theorem sc_counts_of : FnScope N_counts_of P_counts_of (defScope s_counts_of) := ⟨rfl, rfl, rfl, by decide +kernel, rfl, by decide +kernel, by decide +kernel⟩
abbrev s_content_of : Stmt := top 32
abbrev N_content_of : List Str := ["columns", "counts", "number", "found", "t", "block", "column", "text", "at", "many"]
abbrev P_content_of : List Str := ["columns", "counts", "number"]
theorem sc_content_of : FnScope N_content_of P_content_of (defScope s_content_of) := ⟨rfl, rfl, rfl, by decide +kernel, rfl, by decide +kernel, by decide +kernel⟩
abbrev s_torn_within : Stmt := top 34
abbrev N_torn_within : List Str := ["states", "size", "first", "last", "down", "columns", "counts", "number", "content"]
abbrev P_torn_within : List Str := ["states", "size", "first", "last", "down"]
theorem sc_torn_within : FnScope N_torn_within P_torn_within (defScope s_torn_within) := ⟨rfl, rfl, rfl, by decide +kernel, rfl, by decide +kernel, by decide +kernel⟩
abbrev s_torn_copy : Stmt := top 35
abbrev N_torn_copy : List Str := ["history", "size", "first", "last", "down"]
abbrev P_torn_copy : List Str := ["history", "size", "first", "last", "down"]
theorem sc_torn_copy : FnScope N_torn_copy P_torn_copy (defScope s_torn_copy) := ⟨rfl, rfl, rfl, by decide +kernel, rfl, by decide +kernel, by decide +kernel⟩
abbrev s_parted : Stmt := top 36
abbrev N_parted : List Str := ["history", "size", "down", "states", "first", "found", "rows", "last"]
abbrev P_parted : List Str := ["history", "size", "down"]
theorem sc_parted : FnScope N_parted P_parted (defScope s_parted) := ⟨rfl, rfl, rfl, by decide +kernel, rfl, by decide +kernel, by decide +kernel⟩
abbrev s_holds : Stmt := top 37
abbrev N_holds : List Str := ["history", "size", "down"]
abbrev P_holds : List Str := ["history", "size", "down"]
theorem sc_holds : FnScope N_holds P_holds (defScope s_holds) := ⟨rfl, rfl, rfl, by decide +kernel, rfl, by decide +kernel, by decide +kernel⟩
abbrev s_windows : Stmt := top 38
abbrev N_windows : List Str := ["history", "size", "down"]
abbrev P_windows : List Str := ["history", "size", "down"]
theorem sc_windows : FnScope N_windows P_windows (defScope s_windows) := ⟨rfl, rfl, rfl, by decide +kernel, rfl, by decide +kernel, by decide +kernel⟩
abbrev s_law_spring : Stmt := top 40
abbrev N_law_spring : List Str := ["script", "at", "cell", "great", "high", "low", "held", "turn"]
abbrev P_law_spring : List Str := ["script", "at"]
theorem sc_law_spring : FnScope N_law_spring P_law_spring (defScope s_law_spring) := ⟨rfl, rfl, rfl, by decide +kernel, rfl, by decide +kernel, by decide +kernel⟩
abbrev s_law_sip : Stmt := top 41
abbrev N_law_sip : List Str := ["spring", "many", "digit"]
abbrev P_law_sip : List Str := ["spring", "many"]
theorem sc_law_sip : FnScope N_law_sip P_law_sip (defScope s_law_sip) := ⟨rfl, rfl, rfl, by decide +kernel, rfl, by decide +kernel, by decide +kernel⟩
abbrev s_law_cells : Stmt := top 42
abbrev N_law_cells : List Str := ["spring", "length", "signs", "at"]
abbrev P_law_cells : List Str := ["spring", "length"]
theorem sc_law_cells : FnScope N_law_cells P_law_cells (defScope s_law_cells) := ⟨rfl, rfl, rfl, by decide +kernel, rfl, by decide +kernel, by decide +kernel⟩
abbrev s_law_text : Stmt := top 43
abbrev N_law_text : List Str := ["spring", "length", "signs", "at"]
abbrev P_law_text : List Str := ["spring", "length"]
theorem sc_law_text : FnScope N_law_text P_law_text (defScope s_law_text) := ⟨rfl, rfl, rfl, by decide +kernel, rfl, by decide +kernel, by decide +kernel⟩
abbrev s_law_writes : Stmt := top 44
abbrev N_law_writes : List Str := ["spring", "length", "most", "found", "turn", "begin", "most_cells", "size"]
abbrev P_law_writes : List Str := ["spring", "length", "most"]
theorem sc_law_writes : FnScope N_law_writes P_law_writes (defScope s_law_writes) := ⟨rfl, rfl, rfl, by decide +kernel, rfl, by decide +kernel, by decide +kernel⟩
abbrev s_law_states : Stmt := top 45
abbrev N_law_states : List Str := ["cells", "writes", "found", "begin", "text", "last"]
abbrev P_law_states : List Str := ["cells", "writes"]
theorem sc_law_states : FnScope N_law_states P_law_states (defScope s_law_states) := ⟨rfl, rfl, rfl, by decide +kernel, rfl, by decide +kernel, by decide +kernel⟩
abbrev s_law_seen : Stmt := top 46
abbrev N_law_seen : List Str := ["states", "size", "back", "t", "early", "late", "spot", "mixed"]
abbrev P_law_seen : List Str := ["states", "size", "back", "t"]
theorem sc_law_seen : FnScope N_law_seen P_law_seen (defScope s_law_seen) := ⟨rfl, rfl, rfl, by decide +kernel, rfl, by decide +kernel, by decide +kernel⟩
abbrev s_law_right : Stmt := top 47
abbrev N_law_right : List Str := ["history", "states", "size", "back", "seen", "t", "told"]
abbrev P_law_right : List Str := ["history", "states", "size", "back"]
theorem sc_law_right : FnScope N_law_right P_law_right (defScope s_law_right) := ⟨rfl, rfl, rfl, by decide +kernel, rfl, by decide +kernel, by decide +kernel⟩
abbrev s_law : Stmt := top 48
abbrev N_law : List Str := ["script", "spring", "cells", "writes", "history", "states", "turn", "size", "back", "wide"]
abbrev P_law : List Str := ["script"]
theorem sc_law : FnScope N_law P_law (defScope s_law) := ⟨rfl, rfl, rfl, by decide +kernel, rfl, by decide +kernel, by decide +kernel⟩
abbrev s_File_init : Stmt := inClass (top 16) 0
abbrev N_File_init : List Str := ["self", "cells"]
abbrev P_File_init : List Str := ["self", "cells"]
theorem sc_File_init : FnScope N_File_init P_File_init (defScope s_File_init) := ⟨rfl, rfl, rfl, by decide +kernel, rfl, by decide +kernel, by decide +kernel⟩
abbrev s_File_cells : Stmt := inClass (top 16) 1
abbrev N_File_cells : List Str := ["self"]
abbrev P_File_cells : List Str := ["self"]
theorem sc_File_cells : FnScope N_File_cells P_File_cells (defScope s_File_cells) := ⟨rfl, rfl, rfl, by decide +kernel, rfl, by decide +kernel, by decide +kernel⟩
abbrev s_File_content : Stmt := inClass (top 16) 2
abbrev N_File_content : List Str := ["self"]
abbrev P_File_content : List Str := ["self"]
theorem sc_File_content : FnScope N_File_content P_File_content (defScope s_File_content) := ⟨rfl, rfl, rfl, by decide +kernel, rfl, by decide +kernel, by decide +kernel⟩
abbrev s_File_len : Stmt := inClass (top 16) 4
abbrev N_File_len : List Str := ["self"]
abbrev P_File_len : List Str := ["self"]
theorem sc_File_len : FnScope N_File_len P_File_len (defScope s_File_len) := ⟨rfl, rfl, rfl, by decide +kernel, rfl, by decide +kernel, by decide +kernel⟩
abbrev s_File_iter : Stmt := inClass (top 16) 5
abbrev N_File_iter : List Str := ["self"]
abbrev P_File_iter : List Str := ["self"]
theorem sc_File_iter : FnScope N_File_iter P_File_iter (defScope s_File_iter) := ⟨rfl, rfl, rfl, by decide +kernel, rfl, by decide +kernel, by decide +kernel⟩
abbrev s_File_getitem : Stmt := inClass (top 16) 6
abbrev N_File_getitem : List Str := ["self", "k"]
abbrev P_File_getitem : List Str := ["self", "k"]
theorem sc_File_getitem : FnScope N_File_getitem P_File_getitem (defScope s_File_getitem) := ⟨rfl, rfl, rfl, by decide +kernel, rfl, by decide +kernel, by decide +kernel⟩
abbrev s_File_eq : Stmt := inClass (top 16) 7
abbrev N_File_eq : List Str := ["self", "other"]
abbrev P_File_eq : List Str := ["self", "other"]
theorem sc_File_eq : FnScope N_File_eq P_File_eq (defScope s_File_eq) := ⟨rfl, rfl, rfl, by decide +kernel, rfl, by decide +kernel, by decide +kernel⟩
abbrev s_History_init : Stmt := inClass (top 24) 0
abbrev N_History_init : List Str := ["self", "file", "writes", "rows", "row"]
abbrev P_History_init : List Str := ["self", "file", "writes"]
theorem sc_History_init : FnScope N_History_init P_History_init (defScope s_History_init) := ⟨rfl, rfl, rfl, by decide +kernel, rfl, by decide +kernel, by decide +kernel⟩
abbrev s_History_file : Stmt := inClass (top 24) 1
abbrev N_History_file : List Str := ["self"]
abbrev P_History_file : List Str := ["self"]
theorem sc_History_file : FnScope N_History_file P_History_file (defScope s_History_file) := ⟨rfl, rfl, rfl, by decide +kernel, rfl, by decide +kernel, by decide +kernel⟩
abbrev s_History_len : Stmt := inClass (top 24) 2
abbrev N_History_len : List Str := ["self"]
abbrev P_History_len : List Str := ["self"]
theorem sc_History_len : FnScope N_History_len P_History_len (defScope s_History_len) := ⟨rfl, rfl, rfl, by decide +kernel, rfl, by decide +kernel, by decide +kernel⟩
abbrev s_History_iter : Stmt := inClass (top 24) 3
abbrev N_History_iter : List Str := ["self"]
abbrev P_History_iter : List Str := ["self"]
theorem sc_History_iter : FnScope N_History_iter P_History_iter (defScope s_History_iter) := ⟨rfl, rfl, rfl, by decide +kernel, rfl, by decide +kernel, by decide +kernel⟩
abbrev s_History_getitem : Stmt := inClass (top 24) 4
abbrev N_History_getitem : List Str := ["self", "k"]
abbrev P_History_getitem : List Str := ["self", "k"]
theorem sc_History_getitem : FnScope N_History_getitem P_History_getitem (defScope s_History_getitem) := ⟨rfl, rfl, rfl, by decide +kernel, rfl, by decide +kernel, by decide +kernel⟩
abbrev s_History_iadd : Stmt := inClass (top 24) 5
abbrev N_History_iadd : List Str := ["self", "write"]
abbrev P_History_iadd : List Str := ["self", "write"]
theorem sc_History_iadd : FnScope N_History_iadd P_History_iadd (defScope s_History_iadd) := ⟨rfl, rfl, rfl, by decide +kernel, rfl, by decide +kernel, by decide +kernel⟩
abbrev s_History_eq : Stmt := inClass (top 24) 6
abbrev N_History_eq : List Str := ["self", "other"]
abbrev P_History_eq : List Str := ["self", "other"]
theorem sc_History_eq : FnScope N_History_eq P_History_eq (defScope s_History_eq) := ⟨rfl, rfl, rfl, by decide +kernel, rfl, by decide +kernel, by decide +kernel⟩
abbrev s_History_states : Stmt := inClass (top 24) 7
abbrev N_History_states : List Str := ["self", "found", "begin", "text"]
abbrev P_History_states : List Str := ["self"]
theorem sc_History_states : FnScope N_History_states P_History_states (defScope s_History_states) := ⟨rfl, rfl, rfl, by decide +kernel, rfl, by decide +kernel, by decide +kernel⟩
abbrev s_History_at : Stmt := inClass (top 24) 8
abbrev N_History_at : List Str := ["self", "t"]
abbrev P_History_at : List Str := ["self", "t"]
theorem sc_History_at : FnScope N_History_at P_History_at (defScope s_History_at) := ⟨rfl, rfl, rfl, by decide +kernel, rfl, by decide +kernel, by decide +kernel⟩
abbrev s_History_copy : Stmt := inClass (top 24) 11
abbrev N_History_copy : List Str := ["self"]
abbrev P_History_copy : List Str := ["self"]
theorem sc_History_copy : FnScope N_History_copy P_History_copy (defScope s_History_copy) := ⟨rfl, rfl, rfl, by decide +kernel, rfl, by decide +kernel, by decide +kernel⟩
abbrev si_InvalidFile : Stmt := inClass (top 3) 0
abbrev si_InvalidNumber : Stmt := inClass (top 4) 0
abbrev si_InvalidList : Stmt := inClass (top 5) 0
abbrev si_InvalidWrite : Stmt := inClass (top 6) 0
abbrev si_InvalidHistory : Stmt := inClass (top 7) 0
structure Prg (K : Frag) (mg : Str → Option Value) where
  n_ValueError : mg "ValueError" = none
  n_bool : mg "bool" = none
  n_enumerate : mg "enumerate" = none
  n_int : mg "int" = none
  n_isinstance : mg "isinstance" = none
  n_iter : mg "iter" = none
  n_len : mg "len" = none
  n_list : mg "list" = none
  n_max : mg "max" = none
  n_min : mg "min" = none
  n_property : mg "property" = none
  n_range : mg "range" = none
  n_sorted : mg "sorted" = none
  n_str : mg "str" = none
  n_sum : mg "sum" = none
  n_super : mg "super" = none
  n_tuple : mg "tuple" = none
  tg_SIGNS : Tok
  g_SIGNS : mg "SIGNS" = some (.str "abcdefghijklmnopqrstuvwxyz" tg_SIGNS)
  C_File : Addr
  mc_File : mg "File" = some (.ref C_File)
  C_History : Addr
  mc_History : mg "History" = some (.ref C_History)
  f_is_whole : Addr
  d_is_whole : FuncData
  F_is_whole : Fun K "is_whole" "is_whole" s_is_whole f_is_whole d_is_whole
  b_is_whole : Binds K d_is_whole P_is_whole []
  m_is_whole : mg "is_whole" = some (.ref f_is_whole)
  f_check_least : Addr
  d_check_least : FuncData
  F_check_least : Fun K "check_least" "check_least" s_check_least f_check_least d_check_least
  b_check_least : Binds K d_check_least P_check_least []
  m_check_least : mg "check_least" = some (.ref f_check_least)
  f_check_within : Addr
  d_check_within : FuncData
  F_check_within : Fun K "check_within" "check_within" s_check_within f_check_within d_check_within
  b_check_within : Binds K d_check_within P_check_within []
  m_check_within : mg "check_within" = some (.ref f_check_within)
  f_are_cells : Addr
  d_are_cells : FuncData
  F_are_cells : Fun K "are_cells" "are_cells" s_are_cells f_are_cells d_are_cells
  b_are_cells : Binds K d_are_cells P_are_cells []
  m_are_cells : mg "are_cells" = some (.ref f_are_cells)
  f_is_content : Addr
  d_is_content : FuncData
  F_is_content : Fun K "is_content" "is_content" s_is_content f_is_content d_is_content
  b_is_content : Binds K d_is_content P_is_content []
  m_is_content : mg "is_content" = some (.ref f_is_content)
  f_check_file : Addr
  d_check_file : FuncData
  F_check_file : Fun K "check_file" "check_file" s_check_file f_check_file d_check_file
  b_check_file : Binds K d_check_file P_check_file []
  m_check_file : mg "check_file" = some (.ref f_check_file)
  f_blocks_of : Addr
  d_blocks_of : FuncData
  F_blocks_of : Fun K "blocks_of" "blocks_of" s_blocks_of f_blocks_of d_blocks_of
  b_blocks_of : Binds K d_blocks_of P_blocks_of []
  m_blocks_of : mg "blocks_of" = some (.ref f_blocks_of)
  f_is_write : Addr
  d_is_write : FuncData
  F_is_write : Fun K "is_write" "is_write" s_is_write f_is_write d_is_write
  b_is_write : Binds K d_is_write P_is_write []
  m_is_write : mg "is_write" = some (.ref f_is_write)
  f_check_write : Addr
  d_check_write : FuncData
  F_check_write : Fun K "check_write" "check_write" s_check_write f_check_write d_check_write
  b_check_write : Binds K d_check_write P_check_write []
  m_check_write : mg "check_write" = some (.ref f_check_write)
  f_written : Addr
  d_written : FuncData
  F_written : Fun K "written" "written" s_written f_written d_written
  b_written : Binds K d_written P_written []
  m_written : mg "written" = some (.ref f_written)
  f_check_history : Addr
  d_check_history : FuncData
  F_check_history : Fun K "check_history" "check_history" s_check_history f_check_history d_check_history
  b_check_history : Binds K d_check_history P_check_history []
  m_check_history : mg "check_history" = some (.ref f_check_history)
  f_check_asked : Addr
  d_check_asked : FuncData
  F_check_asked : Fun K "check_asked" "check_asked" s_check_asked f_check_asked d_check_asked
  b_check_asked : Binds K d_check_asked P_check_asked []
  m_check_asked : mg "check_asked" = some (.ref f_check_asked)
  f_columns_of : Addr
  d_columns_of : FuncData
  F_columns_of : Fun K "columns_of" "columns_of" s_columns_of f_columns_of d_columns_of
  b_columns_of : Binds K d_columns_of P_columns_of []
  m_columns_of : mg "columns_of" = some (.ref f_columns_of)
  f_columns_along : Addr
  d_columns_along : FuncData
  F_columns_along : Fun K "columns_along" "columns_along" s_columns_along f_columns_along d_columns_along
  b_columns_along : Binds K d_columns_along P_columns_along []
  m_columns_along : mg "columns_along" = some (.ref f_columns_along)
  f_readings : Addr
  d_readings : FuncData
  F_readings : Fun K "readings" "readings" s_readings f_readings d_readings
  b_readings : Binds K d_readings P_readings []
  m_readings : mg "readings" = some (.ref f_readings)
  f_counts_of : Addr
  d_counts_of : FuncData
  F_counts_of : Fun K "counts_of" "counts_of" s_counts_of f_counts_of d_counts_of
  b_counts_of : Binds K d_counts_of P_counts_of []
  m_counts_of : mg "counts_of" = some (.ref f_counts_of)
  f_content_of : Addr
  d_content_of : FuncData
  F_content_of : Fun K "content_of" "content_of" s_content_of f_content_of d_content_of
  b_content_of : Binds K d_content_of P_content_of []
  m_content_of : mg "content_of" = some (.ref f_content_of)
  f_torn_within : Addr
  d_torn_within : FuncData
  F_torn_within : Fun K "torn_within" "torn_within" s_torn_within f_torn_within d_torn_within
  b_torn_within : Binds K d_torn_within P_torn_within []
  m_torn_within : mg "torn_within" = some (.ref f_torn_within)
  tk0_torn_copy : Tok
  f_torn_copy : Addr
  d_torn_copy : FuncData
  F_torn_copy : FunV K "torn_copy" "torn_copy" s_torn_copy f_torn_copy d_torn_copy
  kb_torn_copy_2_ : KwB K d_torn_copy P_torn_copy 2 [] [.p 0, .p 1, .d (.int 0) (.int 0) (.int 0 tk0_torn_copy), .d .non .non .none, .d (.bl false) (.bl false) (.bool false)]
  kb_torn_copy_4_down : KwB K d_torn_copy P_torn_copy 4 ["down"] [.p 0, .p 1, .p 2, .p 3, .k 0]
  m_torn_copy : mg "torn_copy" = some (.ref f_torn_copy)
  f_parted : Addr
  d_parted : FuncData
  F_parted : Fun K "parted" "parted" s_parted f_parted d_parted
  b_parted : Binds K d_parted P_parted []
  m_parted : mg "parted" = some (.ref f_parted)
  f_holds : Addr
  d_holds : FuncData
  F_holds : Fun K "holds" "holds" s_holds f_holds d_holds
  kb_holds_2_ : KwB K d_holds P_holds 2 [] [.p 0, .p 1, .d (.bl false) (.bl false) (.bool false)]
  kb_holds_2_down : KwB K d_holds P_holds 2 ["down"] [.p 0, .p 1, .k 0]
  m_holds : mg "holds" = some (.ref f_holds)
  f_windows : Addr
  d_windows : FuncData
  F_windows : Fun K "windows" "windows" s_windows f_windows d_windows
  kb_windows_2_ : KwB K d_windows P_windows 2 [] [.p 0, .p 1, .d (.bl false) (.bl false) (.bool false)]
  kb_windows_2_down : KwB K d_windows P_windows 2 ["down"] [.p 0, .p 1, .k 0]
  m_windows : mg "windows" = some (.ref f_windows)
  f_law_spring : Addr
  d_law_spring : FuncData
  F_law_spring : Fun K "_law_spring" "_law_spring" s_law_spring f_law_spring d_law_spring
  b_law_spring : Binds K d_law_spring P_law_spring []
  m_law_spring : mg "_law_spring" = some (.ref f_law_spring)
  f_law_sip : Addr
  d_law_sip : FuncData
  F_law_sip : Fun K "_law_sip" "_law_sip" s_law_sip f_law_sip d_law_sip
  b_law_sip : Binds K d_law_sip P_law_sip []
  m_law_sip : mg "_law_sip" = some (.ref f_law_sip)
  f_law_cells : Addr
  d_law_cells : FuncData
  F_law_cells : Fun K "_law_cells" "_law_cells" s_law_cells f_law_cells d_law_cells
  b_law_cells : Binds K d_law_cells P_law_cells []
  m_law_cells : mg "_law_cells" = some (.ref f_law_cells)
  f_law_text : Addr
  d_law_text : FuncData
  F_law_text : Fun K "_law_text" "_law_text" s_law_text f_law_text d_law_text
  b_law_text : Binds K d_law_text P_law_text []
  m_law_text : mg "_law_text" = some (.ref f_law_text)
  f_law_writes : Addr
  d_law_writes : FuncData
  F_law_writes : Fun K "_law_writes" "_law_writes" s_law_writes f_law_writes d_law_writes
  b_law_writes : Binds K d_law_writes P_law_writes []
  m_law_writes : mg "_law_writes" = some (.ref f_law_writes)
  f_law_states : Addr
  d_law_states : FuncData
  F_law_states : Fun K "_law_states" "_law_states" s_law_states f_law_states d_law_states
  b_law_states : Binds K d_law_states P_law_states []
  m_law_states : mg "_law_states" = some (.ref f_law_states)
  f_law_seen : Addr
  d_law_seen : FuncData
  F_law_seen : Fun K "_law_seen" "_law_seen" s_law_seen f_law_seen d_law_seen
  b_law_seen : Binds K d_law_seen P_law_seen []
  m_law_seen : mg "_law_seen" = some (.ref f_law_seen)
  f_law_right : Addr
  d_law_right : FuncData
  F_law_right : Fun K "_law_right" "_law_right" s_law_right f_law_right d_law_right
  b_law_right : Binds K d_law_right P_law_right []
  m_law_right : mg "_law_right" = some (.ref f_law_right)
  f_law : Addr
  d_law : FuncData
  F_law : Fun K "law" "law" s_law f_law d_law
  b_law : Binds K d_law P_law []
  m_law : mg "law" = some (.ref f_law)
  tk0_File_init : Tok
  f_File_init : Addr
  d_File_init : FuncData
  F_File_init : FunV K "__init__" "File.__init__" s_File_init f_File_init d_File_init
  b_File_init : Binds K d_File_init P_File_init []
  b1_File_init : Binds K d_File_init P_File_init [(.str "" tk0_File_init)]
  M_File_init : Meth K C_File "__init__" f_File_init
  f_File_cells : Addr
  d_File_cells : FuncData
  F_File_cells : Fun K "cells" "File.cells" s_File_cells f_File_cells d_File_cells
  b_File_cells : Binds K d_File_cells P_File_cells []
  pr_File_cells : Addr
  V_File_cells : PropOf K C_File "cells" pr_File_cells f_File_cells
  f_File_content : Addr
  d_File_content : FuncData
  F_File_content : Fun K "content" "File.content" s_File_content f_File_content d_File_content
  b_File_content : Binds K d_File_content P_File_content []
  pr_File_content : Addr
  V_File_content : PropOf K C_File "content" pr_File_content f_File_content
  f_File_len : Addr
  d_File_len : FuncData
  F_File_len : Fun K "__len__" "File.__len__" s_File_len f_File_len d_File_len
  b_File_len : Binds K d_File_len P_File_len []
  M_File_len : Meth K C_File "__len__" f_File_len
  f_File_iter : Addr
  d_File_iter : FuncData
  F_File_iter : Fun K "__iter__" "File.__iter__" s_File_iter f_File_iter d_File_iter
  b_File_iter : Binds K d_File_iter P_File_iter []
  M_File_iter : Meth K C_File "__iter__" f_File_iter
  f_File_getitem : Addr
  d_File_getitem : FuncData
  F_File_getitem : Fun K "__getitem__" "File.__getitem__" s_File_getitem f_File_getitem d_File_getitem
  b_File_getitem : Binds K d_File_getitem P_File_getitem []
  M_File_getitem : Meth K C_File "__getitem__" f_File_getitem
  f_File_eq : Addr
  d_File_eq : FuncData
  F_File_eq : Fun K "__eq__" "File.__eq__" s_File_eq f_File_eq d_File_eq
  b_File_eq : Binds K d_File_eq P_File_eq []
  M_File_eq : Meth K C_File "__eq__" f_File_eq
  f_History_init : Addr
  d_History_init : FuncData
  F_History_init : FunV K "__init__" "History.__init__" s_History_init f_History_init d_History_init
  b_History_init : Binds K d_History_init P_History_init []
  b1_History_init : Binds K d_History_init P_History_init [.none]
  M_History_init : Meth K C_History "__init__" f_History_init
  f_History_file : Addr
  d_History_file : FuncData
  F_History_file : Fun K "file" "History.file" s_History_file f_History_file d_History_file
  b_History_file : Binds K d_History_file P_History_file []
  pr_History_file : Addr
  V_History_file : PropOf K C_History "file" pr_History_file f_History_file
  f_History_len : Addr
  d_History_len : FuncData
  F_History_len : Fun K "__len__" "History.__len__" s_History_len f_History_len d_History_len
  b_History_len : Binds K d_History_len P_History_len []
  M_History_len : Meth K C_History "__len__" f_History_len
  f_History_iter : Addr
  d_History_iter : FuncData
  F_History_iter : Fun K "__iter__" "History.__iter__" s_History_iter f_History_iter d_History_iter
  b_History_iter : Binds K d_History_iter P_History_iter []
  M_History_iter : Meth K C_History "__iter__" f_History_iter
  f_History_getitem : Addr
  d_History_getitem : FuncData
  F_History_getitem : Fun K "__getitem__" "History.__getitem__" s_History_getitem f_History_getitem d_History_getitem
  b_History_getitem : Binds K d_History_getitem P_History_getitem []
  M_History_getitem : Meth K C_History "__getitem__" f_History_getitem
  f_History_iadd : Addr
  d_History_iadd : FuncData
  F_History_iadd : Fun K "__iadd__" "History.__iadd__" s_History_iadd f_History_iadd d_History_iadd
  b_History_iadd : Binds K d_History_iadd P_History_iadd []
  M_History_iadd : Meth K C_History "__iadd__" f_History_iadd
  f_History_eq : Addr
  d_History_eq : FuncData
  F_History_eq : Fun K "__eq__" "History.__eq__" s_History_eq f_History_eq d_History_eq
  b_History_eq : Binds K d_History_eq P_History_eq []
  M_History_eq : Meth K C_History "__eq__" f_History_eq
  f_History_states : Addr
  d_History_states : FuncData
  F_History_states : Fun K "states" "History.states" s_History_states f_History_states d_History_states
  b_History_states : Binds K d_History_states P_History_states []
  M_History_states : Meth K C_History "states" f_History_states
  f_History_at : Addr
  d_History_at : FuncData
  F_History_at : Fun K "at" "History.at" s_History_at f_History_at d_History_at
  b_History_at : Binds K d_History_at P_History_at []
  M_History_at : Meth K C_History "at" f_History_at
  f_History_copy : Addr
  d_History_copy : FuncData
  F_History_copy : Fun K "copy" "History.copy" s_History_copy f_History_copy d_History_copy
  b_History_copy : Binds K d_History_copy P_History_copy []
  M_History_copy : Meth K C_History "copy" f_History_copy
  L_File : ICls K C_File
  K_File : Mk K C_File f_File_init
  A_File_row : NoAttr K C_File "row"
  L_History : ICls K C_History
  K_History : Mk K C_History f_History_init
  A_History_start : NoAttr K C_History "start"
  A_History_rows : NoAttr K C_History "rows"
  ic_File : PySem.W.isClsIn K C_File = true
  tc_File : PySem.W.typeIn K (.ref C_File) = some (.type "type")
  ic_History : PySem.W.isClsIn K C_History = true
  tc_History : PySem.W.typeIn K (.ref C_History) = some (.type "type")
  ne_File : PySem.W.findIn K (.ref C_File) "__ne__" = some (some (.builtin "object.__ne__"))
  fi_File_getitem : PySem.W.fnIn K f_File_getitem = true
  ne_History : PySem.W.findIn K (.ref C_History) "__ne__" = some (some (.builtin "object.__ne__"))
  fi_History_getitem : PySem.W.fnIn K f_History_getitem = true
  s_File_File : PySem.W.kitOne K (.ref C_File) (.ref C_File) = some true
  s_File_History : PySem.W.kitOne K (.ref C_File) (.ref C_History) = some false
  si_File_bool : PySem.W.subIn K (.ref C_File) (.type "bool") = some false
  si_File_int : PySem.W.subIn K (.ref C_File) (.type "int") = some false
  si_File_list : PySem.W.subIn K (.ref C_File) (.type "list") = some false
  si_File_str : PySem.W.subIn K (.ref C_File) (.type "str") = some false
  si_File_tuple : PySem.W.subIn K (.ref C_File) (.type "tuple") = some false
  nf_History_File : PySem.W.notFirst K C_History (.ref C_File) = true
  s_History_File : PySem.W.kitOne K (.ref C_History) (.ref C_File) = some false
  s_History_History : PySem.W.kitOne K (.ref C_History) (.ref C_History) = some true
  si_History_bool : PySem.W.subIn K (.ref C_History) (.type "bool") = some false
  si_History_int : PySem.W.subIn K (.ref C_History) (.type "int") = some false
  si_History_list : PySem.W.subIn K (.ref C_History) (.type "list") = some false
  si_History_str : PySem.W.subIn K (.ref C_History) (.type "str") = some false
  si_History_tuple : PySem.W.subIn K (.ref C_History) (.type "tuple") = some false
  nf_File_History : PySem.W.notFirst K C_File (.ref C_History) = true
  C_InvalidFile : Addr
  I_InvalidFile : Addr
  mc_InvalidFile : mg "InvalidFile" = some (.ref C_InvalidFile)
  S_InvalidFile : SupX PySem.Challenge.rw_keptholes_k63_whole_writes_seen_in_part.prog K C_InvalidFile I_InvalidFile "value" "value"
  x_InvalidFile : XfC K C_InvalidFile
  e_InvalidFile_InvalidFile : PySem.W.exmOne K (.ref C_InvalidFile) (.ref C_InvalidFile) = some true
  C_InvalidNumber : Addr
  I_InvalidNumber : Addr
  mc_InvalidNumber : mg "InvalidNumber" = some (.ref C_InvalidNumber)
  S_InvalidNumber : SupX PySem.Challenge.rw_keptholes_k63_whole_writes_seen_in_part.prog K C_InvalidNumber I_InvalidNumber "value" "value"
  x_InvalidNumber : XfC K C_InvalidNumber
  e_InvalidNumber_InvalidNumber : PySem.W.exmOne K (.ref C_InvalidNumber) (.ref C_InvalidNumber) = some true
  C_InvalidList : Addr
  I_InvalidList : Addr
  mc_InvalidList : mg "InvalidList" = some (.ref C_InvalidList)
  S_InvalidList : SupX PySem.Challenge.rw_keptholes_k63_whole_writes_seen_in_part.prog K C_InvalidList I_InvalidList "value" "value"
  x_InvalidList : XfC K C_InvalidList
  e_InvalidList_InvalidList : PySem.W.exmOne K (.ref C_InvalidList) (.ref C_InvalidList) = some true
  C_InvalidWrite : Addr
  I_InvalidWrite : Addr
  mc_InvalidWrite : mg "InvalidWrite" = some (.ref C_InvalidWrite)
  S_InvalidWrite : SupX PySem.Challenge.rw_keptholes_k63_whole_writes_seen_in_part.prog K C_InvalidWrite I_InvalidWrite "value" "value"
  x_InvalidWrite : XfC K C_InvalidWrite
  e_InvalidWrite_InvalidWrite : PySem.W.exmOne K (.ref C_InvalidWrite) (.ref C_InvalidWrite) = some true
  C_InvalidHistory : Addr
  I_InvalidHistory : Addr
  mc_InvalidHistory : mg "InvalidHistory" = some (.ref C_InvalidHistory)
  S_InvalidHistory : SupX PySem.Challenge.rw_keptholes_k63_whole_writes_seen_in_part.prog K C_InvalidHistory I_InvalidHistory "value" "value"
  x_InvalidHistory : XfC K C_InvalidHistory
  e_InvalidHistory_InvalidHistory : PySem.W.exmOne K (.ref C_InvalidHistory) (.ref C_InvalidHistory) = some true
  e_InvalidFile_InvalidNumber : PySem.W.exmOne K (.ref C_InvalidFile) (.ref C_InvalidNumber) = some false
  e_InvalidFile_InvalidList : PySem.W.exmOne K (.ref C_InvalidFile) (.ref C_InvalidList) = some false
  e_InvalidFile_InvalidWrite : PySem.W.exmOne K (.ref C_InvalidFile) (.ref C_InvalidWrite) = some false
  e_InvalidFile_InvalidHistory : PySem.W.exmOne K (.ref C_InvalidFile) (.ref C_InvalidHistory) = some false
  e_InvalidNumber_InvalidFile : PySem.W.exmOne K (.ref C_InvalidNumber) (.ref C_InvalidFile) = some false
  e_InvalidNumber_InvalidList : PySem.W.exmOne K (.ref C_InvalidNumber) (.ref C_InvalidList) = some false
  e_InvalidNumber_InvalidWrite : PySem.W.exmOne K (.ref C_InvalidNumber) (.ref C_InvalidWrite) = some false
  e_InvalidNumber_InvalidHistory : PySem.W.exmOne K (.ref C_InvalidNumber) (.ref C_InvalidHistory) = some false
  e_InvalidList_InvalidFile : PySem.W.exmOne K (.ref C_InvalidList) (.ref C_InvalidFile) = some false
  e_InvalidList_InvalidNumber : PySem.W.exmOne K (.ref C_InvalidList) (.ref C_InvalidNumber) = some false
  e_InvalidList_InvalidWrite : PySem.W.exmOne K (.ref C_InvalidList) (.ref C_InvalidWrite) = some false
  e_InvalidList_InvalidHistory : PySem.W.exmOne K (.ref C_InvalidList) (.ref C_InvalidHistory) = some false
  e_InvalidWrite_InvalidFile : PySem.W.exmOne K (.ref C_InvalidWrite) (.ref C_InvalidFile) = some false
  e_InvalidWrite_InvalidNumber : PySem.W.exmOne K (.ref C_InvalidWrite) (.ref C_InvalidNumber) = some false
  e_InvalidWrite_InvalidList : PySem.W.exmOne K (.ref C_InvalidWrite) (.ref C_InvalidList) = some false
  e_InvalidWrite_InvalidHistory : PySem.W.exmOne K (.ref C_InvalidWrite) (.ref C_InvalidHistory) = some false
  e_InvalidHistory_InvalidFile : PySem.W.exmOne K (.ref C_InvalidHistory) (.ref C_InvalidFile) = some false
  e_InvalidHistory_InvalidNumber : PySem.W.exmOne K (.ref C_InvalidHistory) (.ref C_InvalidNumber) = some false
  e_InvalidHistory_InvalidList : PySem.W.exmOne K (.ref C_InvalidHistory) (.ref C_InvalidList) = some false
  e_InvalidHistory_InvalidWrite : PySem.W.exmOne K (.ref C_InvalidHistory) (.ref C_InvalidWrite) = some false
end Kh

set_option Elab.async false
set_option linter.all false
set_option maxRecDepth 100000
set_option maxHeartbeats 4000000
namespace Kh
open PySem PySem.Spec L2
def prR : OK → Bool
  | .file => true
  | .history => true
  | _ => false

def m_law_spring (a_script : (List Int)) (a_at : Int) : Res (List Int) :=
  (cond (decide (a_at < (a_script.length : Int))) ((pix a_script a_at).bind fun z2 => Res.ok z2) (Res.ok (((17 : Int) * a_at) + (3 : Int)))).bind fun (s1 : Int) => cond (decide (((10 : Int) ^ Int.toNat (18 : Int)) ≤ s1)) ((pmul ((10 : Int) ^ Int.toNat (60 : Int)) ((10 : Int) ^ Int.toNat (60 : Int))).bind fun z6 => (pmul z6 ((10 : Int) ^ Int.toNat (60 : Int))).bind fun z7 => (pmul z7 ((10 : Int) ^ Int.toNat (60 : Int))).bind fun z8 => (pmul z8 z8).bind fun z9 => (pmod (s1 - ((10 : Int) ^ Int.toNat (18 : Int))) z9).bind fun z10 => Res.ok ([z10] : List Int)) ((foldR (fun (s13 : (Int × Int × Int)) x14 => (pmul s13.2.1 s13.2.1).bind fun z17 => (pmul (((((s13.1 * (39373 : Int)) + (x14 * (977 : Int))) + ((4099 : Int) * a_at)) + (5 : Int)) % (2147483543 : Int)) (((z17 + ((48611 : Int) * x14)) + (2713 : Int)) % (2147483497 : Int))).bind fun z18 => Res.ok ((((((s13.1 * (39373 : Int)) + (x14 * (977 : Int))) + ((4099 : Int) * a_at)) + (5 : Int)) % (2147483543 : Int)), (((z17 + ((48611 : Int) * x14)) + (2713 : Int)) % (2147483497 : Int)), ((s13.2.2 * (2147483496 : Int)) + ((z18 + ((31 : Int) * x14)) % (2147483496 : Int))))) (rangeL 0 (Int.toNat (46 : Int))) (((s1 + ((3 : Int) * a_at)) % (2147483543 : Int)), (s1 % (2147483497 : Int)), (0 : Int))).bind fun s13 => Res.ok ([s13.2.2] : List Int))

def m_law_sip (a_spring : (List Int)) (a_many : Int) : Res (Int × (List Int)) :=
  (pix a_spring (0 : Int)).bind fun z1 => (pmod z1 a_many).bind fun z2 => (pix a_spring (0 : Int)).bind fun z3 => (pdiv z3 a_many).bind fun z4 => (pset a_spring (0 : Int) z4).bind fun z5 => Res.ok (z2, z5)

def m_law_cells (a_spring : (List Int)) (a_length : Int) : Res (Str × (List Int)) :=
  (m_law_sip a_spring (4 : Int)).bind fun z1 => (pix ([("..0ab" : Str), (".0abcd" : Str), ("aab0." : Str), ("abcdefghijklmnopqrstuvwxyz.0" : Str)] : List Str) z1.1).bind fun z2 => (guard (small62 a_length) ()).bind fun _ => (compS (β := Nat) (fun (s5 : (List Int)) x4 => (plenS z2).bind fun z6 => (m_law_sip s5 z6).bind fun z7 => (pixS z2 z7.1).bind fun z8 => Res.ok (some z8, z7.2)) (rangeL 0 (Int.toNat a_length)) z1.2).bind fun l9 => (pjoin ("" : Str) (l9.1.map chS)).bind fun z10 => Res.ok (z10, l9.2)

def m_law_text (a_spring : (List Int)) (a_length : Int) : Res (Str × (List Int)) :=
  (m_law_sip a_spring (4 : Int)).bind fun z1 => (pix ([("0ab" : Str), ("0abcd" : Str), ("ab" : Str), ("abcdefghijklmnopqrstuvwxyz0" : Str)] : List Str) z1.1).bind fun z2 => (guard (small62 a_length) ()).bind fun _ => (compS (β := Nat) (fun (s5 : (List Int)) x4 => (plenS z2).bind fun z6 => (m_law_sip s5 z6).bind fun z7 => (pixS z2 z7.1).bind fun z8 => Res.ok (some z8, z7.2)) (rangeL 0 (Int.toNat a_length)) z1.2).bind fun l9 => (pjoin ("" : Str) (l9.1.map chS)).bind fun z10 => Res.ok (z10, l9.2)

def m_law_writes (a_spring : (List Int)) (a_length : Int) (a_most : Int) : Res ((List (Int × Str)) × (List Int)) :=
  (m_law_sip a_spring (a_most + (1 : Int))).bind fun z2 => (pmul z2.1 (if (decide ((0 : Int) < a_length)) then 1 else 0 : Int)).bind fun z3 => (guard (small62 z3) ()).bind fun _ => (foldR (fun (s4 : ((List (Int × Str)) × (List Int))) x5 => (m_law_sip s4.2 a_length).bind fun z8 => (m_law_sip z8.2 (4 : Int)).bind fun z9 => (pix ([(1 : Int), (2 : Int), (3 : Int), (9 : Int)] : List Int) z9.1).bind fun z10 => (m_law_sip z9.2 (min (a_length - z8.1) z10)).bind fun z11 => (m_law_text z11.2 ((1 : Int) + z11.1)).bind fun z13 => (papp s4.1 (z8.1, z13.1)).bind fun z12 => Res.ok (z12, z13.2)) (rangeL 0 (Int.toNat z3)) (([] : List (Int × Str)), z2.2)).bind fun s4 => Res.ok (s4.1, s4.2)


def m_are_cells (a_value : Str) : Res Bool :=
  (andR (Res.ok true) ((compR (β := Nat) (fun x1 => (pcat (".0" : Str) ("abcdefghijklmnopqrstuvwxyz" : Str)).bind fun z2 => cond (!decide (x1 ∈ signsL z2)) (Res.ok (some x1)) (Res.ok none)) (signsL a_value)).bind fun l3 => Res.ok (l3.isEmpty))).bind fun z4 => Res.ok z4

def m_File_make (z : Str) : Res Str := (m_are_cells z).bind fun b => cond b (.ok z) (.err ⟨.file, .str z⟩)

def m_check_file (a_value : Str) : Res Unit :=
  Res.ok ()

def m_is_whole (a_value : Int) : Res Bool :=
  (andR (Res.ok true) (Res.ok (!false))).bind fun z1 => Res.ok z1

def m_is_content (a_value : Str) : Res Bool :=
  (andR (Res.ok true) ((compR (β := Nat) (fun x1 => (pcat ("0" : Str) ("abcdefghijklmnopqrstuvwxyz" : Str)).bind fun z2 => cond (!decide (x1 ∈ signsL z2)) (Res.ok (some x1)) (Res.ok none)) (signsL a_value)).bind fun l3 => Res.ok (l3.isEmpty))).bind fun z4 => Res.ok z4

def m_is_write (a_value : (Int × Str)) (a_length : Int) : Res Bool :=
  cond (!decide ((2 : Int) = (2 : Int))) (Res.ok false) ((m_is_whole a_value.1).bind fun z2 => cond z2 ((m_is_content a_value.2).bind fun z4 => cond z4 ((andR (Res.ok (decide ((0 : Int) ≤ a_value.1))) (andR (Res.ok (!decide (a_value.2 = ("" : Str)))) ((plenS a_value.2).bind fun z6 => Res.ok (decide ((a_value.1 + z6) ≤ a_length))))).bind fun z7 => Res.ok z7) (Res.ok false)) (Res.ok false))

def m_check_write (a_value : (Int × Str)) (a_length : Int) : Res Unit :=
  (m_is_write a_value a_length).bind fun z1 => cond z1 (Res.ok ()) (Res.err ⟨.write, (Any.tup [(Any.int a_value.1), (Any.str a_value.2)])⟩)

def m_File_len (a_self : Str) : Res Int :=
  (plenS a_self).bind fun z1 => Res.ok z1

def m_History_make (a_file : Str) (a_writes : (Option (List (Int × Str)))) : Res (Str × List (Int × Str)) :=
  (m_check_file a_file).bind fun z1 => ((match a_writes with | none => Res.ok ([] : List (Int × Str)) | some z2 => Res.ok z2)).bind fun z3 => (foldR (fun (s4 : Unit) x5 => (plenO (m_File_len a_file)).bind fun z8 => (m_check_write x5 z8).bind fun z9 => Res.ok ()) z3 ()).bind fun s4 => Res.ok (a_file, z3)

def m_law_states (a_cells : Str) (a_writes : (List (Int × Str))) : Res (List Str) :=
  (preplS a_cells "." "0").bind fun z2 => (foldR (fun (s3 : (List Str)) x4 => (pix s3 (-(1 : Int))).bind fun z7 => (pslS z7 none (some x4.1)).bind fun z9 => (pcat z9 x4.2).bind fun z10 => (plenS x4.2).bind fun z11 => (pslS z7 (some (x4.1 + z11)) none).bind fun z12 => (pcat z10 z12).bind fun z13 => (papp s3 z13).bind fun z8 => Res.ok z8) a_writes ([z2] : List Str)).bind fun s3 => Res.ok s3

def m_law_seen (a_states : (List Str)) (a_size : Int) (a_back : Bool) (a_t : Int) : Res Bool :=
  (pix a_states a_t).bind fun z1 => (pix a_states (a_t + (1 : Int))).bind fun z2 => (plenS z1).bind fun z3 => (guard (rng3B (0 : Int) (z3 + a_size) a_size) ()).bind fun _ => (forR (ρ := Bool) (fun (s4 : Unit) x5 => (pslS z1 none (some x5)).bind fun z8 => (pslS z2 (some x5) none).bind fun z9 => (pcat z8 z9).bind fun z10 => (cond a_back ((pslS z2 none (some x5)).bind fun z12 => (pslS z1 (some x5) none).bind fun z13 => (pcat z12 z13).bind fun z14 => Res.ok z14) (Res.ok z10)).bind fun (s11 : Str) => (pinL pyS.ok s11 a_states).bind fun z18 => cond (!z18) (Res.ok (Ctl.rt true)) (Res.ok (Ctl.nx ()))) (rangeC (0 : Int) a_size (Int.toNat (((z3 + a_size) - (0 : Int) + a_size - 1) / a_size))) ()).bind (Ctl.fin (fun s4 => Res.ok false) (fun r => Res.ok r))

def m_check_history (a_value : (Str × List (Int × Str))) : Res Unit :=
  Res.ok ()

def m_check_least (a_value : Int) (a_least : Int) : Res Unit :=
  (m_is_whole a_value).bind fun z1 => cond z1 (cond (decide (a_value < a_least)) (Res.err ⟨.number, (Any.int a_value)⟩) (Res.ok ())) (Res.err ⟨.number, (Any.int a_value)⟩)

def m_check_asked (a_history : (Str × List (Int × Str))) (a_size : Int) : Res Unit :=
  (m_check_history a_history).bind fun z1 => (m_check_least a_size (1 : Int)).bind fun z2 => Res.ok ()

def m_File_content (a_self : Str) : Res Str :=
  (preplS a_self "." "0").bind fun z1 => Res.ok z1

def m_written (a_row : Str) (a_begin : Int) (a_text : Str) : Res Str :=
  (pslS a_row none (some a_begin)).bind fun z1 => (pcat z1 a_text).bind fun z2 => (plenS a_text).bind fun z3 => (pslS a_row (some (a_begin + z3)) none).bind fun z4 => (pcat z2 z4).bind fun z5 => Res.ok z5

def m_History_states (a_self : (Str × List (Int × Str))) : Res (List Str) :=
  (m_File_content a_self.1).ne.bind fun z2 => (foldR (fun (s3 : (List Str)) x4 => (pix s3 (-(1 : Int))).bind fun z8 => (m_written z8 x4.1 x4.2).bind fun z9 => (papp s3 z9).bind fun z7 => Res.ok z7) a_self.2 ([z2] : List Str)).bind fun s3 => Res.ok s3

def m_History_len (a_self : (Str × List (Int × Str))) : Res Int :=
  Res.ok (a_self.2.length : Int)

def m_blocks_of (a_cells : Str) (a_size : Int) : Res (List Str) :=
  (plenS a_cells).bind fun z1 => (guard (rng3B (0 : Int) z1 a_size) ()).bind fun _ => (compR (β := Str) (fun x2 => (pslS a_cells (some x2) (some (x2 + a_size))).bind fun z3 => Res.ok (some z3)) (rangeC (0 : Int) a_size (Int.toNat ((z1 - (0 : Int) + a_size - 1) / a_size)))).bind fun l4 => Res.ok l4

def m_columns_of (a_states : (List Str)) (a_size : Int) : Res (List (List Str)) :=
  (compR (β := (List Str)) (fun x1 => (m_blocks_of x1 a_size).bind fun z2 => Res.ok (some z2)) a_states).bind fun l3 => (pix l3 (0 : Int)).bind fun z4 => (guard (small62 (z4.length : Int)) ()).bind fun _ => (compR (β := (List Str)) (fun x5 => (compR (β := Str) (fun x6 => (pix x6 x5).bind fun z7 => Res.ok (some z7)) l3).bind fun l8 => Res.ok (some l8)) (rangeL 0 (Int.toNat (z4.length : Int)))).bind fun l9 => Res.ok l9

def m_columns_along (a_states : (List Str)) (a_size : Int) (a_down : Bool) : Res (List (List Str)) :=
  (cond a_down (Res.ok a_states.reverse) (Res.ok a_states)).bind fun z1 => (m_columns_of z1 a_size).bind fun z2 => Res.ok z2

def m_readings (a_column : (List Str)) (a_t : Int) : Res (List (Str × Int)) :=
  (guard (small62 a_t ∧ small62 (a_column.length : Int)) ()).bind fun _ => (foldR (fun (s2 : (List (Str × Int))) x3 => ((pix a_column x3).bind fun z7 => cond (!(dget s2 z7).isSome) ((pix a_column x3).bind fun z8 => (pdput s2 z8 x3).bind fun z9 => Res.ok z9) (Res.ok s2)).bind fun (s6 : (List (Str × Int))) => Res.ok s6) (rangeL a_t (Int.toNat ((a_column.length : Int) - a_t))) ([] : List (Str × Int))).bind fun s2 => (compR (β := (Str × Int)) (fun x16 => Res.ok (some (x16.1, x16.2))) s2).bind fun l17 => (psrtD (py2 pyS pyI) l17).bind fun z18 => Res.ok z18

def m_counts_of (a_columns : (List (List Str))) (a_places : Int) : Res (List (List Int)) :=
  (guard (small62 a_places) ()).bind fun _ => (compR (β := Int) (fun x2 => Res.ok (some (1 : Int))) (rangeL 0 (Int.toNat a_places))).bind fun l3 => (foldR (fun (s4 : (List (List Int))) x5 => (guard (small62 a_places) ()).bind fun _ => (compR (β := Int) (fun x9 => (m_readings x5 x9).bind fun z10 => (compR (β := Int) (fun x11 => (pix s4 (-(1 : Int))).bind fun z12 => (pix z12 x11.2).bind fun z13 => Res.ok (some z13)) z10).bind fun l14 => Res.ok (some (l14.sum))) (rangeL 0 (Int.toNat a_places))).bind fun l15 => (papp s4 l15).bind fun z8 => Res.ok z8) a_columns.reverse ([l3] : List (List Int))).bind fun s4 => Res.ok s4.reverse

def m_content_of (a_columns : (List (List Str))) (a_counts : (List (List Int))) (a_number : Int) : Res Str :=
  (forR (ρ := Str) (fun (s1 : (Int × Str × Int)) x2 => (m_readings x2.2 s1.2.2).bind fun z5 => (forR (ρ := Str) (fun (s6 : (Int × Str × Int)) x7 => (pix a_counts (x2.1 + (1 : Int))).bind fun z10 => (pix z10 x7.2).bind fun z11 => cond (decide (s6.1 < z11)) ((pcat s6.2.1 x7.1).bind fun z12 => Res.ok (Ctl.bk (s6.1, z12, x7.2))) (Res.ok (Ctl.nx ((s6.1 - z11), s6.2.1, s6.2.2)))) z5 (s1.1, s1.2.1, s1.2.2)).bind (Ctl.fin (fun s6 => Res.ok (Ctl.nx (s6.1, s6.2.1, s6.2.2))) (fun r => Res.ok (Ctl.rt r)))) (enumL a_columns) (a_number, ("" : Str), (0 : Int))).bind (Ctl.fin (fun s1 => Res.ok s1.2.1) (fun r => Res.ok r))

def m_torn_within (a_states : (List Str)) (a_size : Int) (a_first : Int) (a_last : Int) (a_down : Bool) : Res (Option Str) :=
  (m_columns_along (cutD a_states (some a_first) (some (a_last + (1 : Int)))) a_size a_down).bind fun z1 => (m_counts_of z1 ((a_last + (1 : Int)) - a_first)).bind fun z2 => (pix z2 (0 : Int)).bind fun z3 => (pix z3 (0 : Int)).bind fun z4 => (guard (small62 (min z4 ((a_states.length : Int) + (1 : Int)))) ()).bind fun _ => (forR (ρ := (Option Str)) (fun (s5 : Unit) x6 => (m_content_of z1 z2 x6).bind fun z9 => (pinL pyS.ok z9 a_states).bind fun z10 => cond (!z10) (Res.ok (Ctl.rt (some z9))) (Res.ok (Ctl.nx ()))) (rangeL 0 (Int.toNat (min z4 ((a_states.length : Int) + (1 : Int))))) ()).bind (Ctl.fin (fun s5 => Res.ok none) (fun r => Res.ok r))

def m_parted (a_history : (Str × List (Int × Str))) (a_size : Int) (a_down : Bool) : Res ((Option (List Int)) × (List (Int × Int))) :=
  (m_History_states a_history).bind fun z1 => (plenO (m_History_len a_history)).bind fun z2 => (guard (small62 z2) ()).bind fun _ => (forR (ρ := ((Option (List Int)) × (List (Int × Int)))) (fun (s3 : Unit) x4 => (m_torn_within z1 a_size x4 (x4 + (1 : Int)) a_down).bind fun z7 => cond (!z7.isNone) (Res.ok (Ctl.rt (none, ([(x4, (x4 + (1 : Int)))] : List (Int × Int))))) (Res.ok (Ctl.nx ()))) (rangeL 0 (Int.toNat z2)) ()).bind (Ctl.fin (fun s3 => (guard (small62 (1 : Int) ∧ small62 (z1.length : Int)) ()).bind fun _ => (foldR (fun (s14 : (Int × (List (Int × Int)) × (List Int))) x15 => ((m_torn_within z1 a_size s14.1 x15 a_down).bind fun z19 => cond (!z19.isNone) ((papp s14.2.1 (s14.1, x15)).bind fun z20 => (papp s14.2.2 (x15 - (1 : Int))).bind fun z21 => Res.ok ((x15 - (1 : Int)), z20, z21)) (Res.ok (s14.1, s14.2.1, s14.2.2))).bind fun (s18 : (Int × (List (Int × Int)) × (List Int))) => Res.ok (s18.1, s18.2.1, s18.2.2)) (rangeL (1 : Int) (Int.toNat ((z1.length : Int) - (1 : Int)))) ((0 : Int), ([] : List (Int × Int)), ([] : List Int))).bind fun s14 => Res.ok ((some s14.2.2), s14.2.1)) (fun r => Res.ok r))

def m_holds (a_history : (Str × List (Int × Str))) (a_size : Int) (a_down : Bool) : Res (Option (List Int)) :=
  (m_check_asked a_history a_size).bind fun z1 => (m_parted a_history a_size a_down).bind fun z2 => Res.ok z2.1

def m_check_within (a_value : Int) (a_first : Int) (a_last : Int) : Res Unit :=
  (m_is_whole a_value).bind fun z1 => cond z1 ((cond (decide (a_first ≤ a_value)) (Res.ok (decide (a_value ≤ a_last))) (Res.ok false)).bind fun t3 => cond t3 (Res.ok ()) (Res.err ⟨.number, (Any.int a_value)⟩)) (Res.err ⟨.number, (Any.int a_value)⟩)

def m_torn_copy__v2 (a_history : (Str × List (Int × Str))) (a_size : Int) (a_first : Int) (a_last : Int) (a_down : Bool) : Res (Option Str) :=
  (m_check_asked a_history a_size).bind fun z1 => (plenO (m_History_len a_history)).bind fun z2 => (m_check_within a_first (0 : Int) z2).bind fun z3 => (plenO (m_History_len a_history)).bind fun z4 => (m_check_within a_last a_first z4).bind fun z5 => (m_History_states a_history).bind fun z6 => (Res.ok a_last).bind fun z7 => (m_torn_within z6 a_size a_first z7 a_down).bind fun z8 => Res.ok z8

def m_windows (a_history : (Str × List (Int × Str))) (a_size : Int) (a_down : Bool) : Res (List (Int × Int)) :=
  (m_check_asked a_history a_size).bind fun z1 => (m_parted a_history a_size a_down).bind fun z2 => Res.ok z2.2

def m_law_right (a_history : (Str × List (Int × Str))) (a_states : (List Str)) (a_size : Int) (a_back : Bool) : Res Bool :=
  (guard (small62 ((a_states.length : Int) - (1 : Int))) ()).bind fun _ => (compR (β := Int) (fun x1 => (m_law_seen a_states a_size a_back x1).bind fun z2 => cond z2 (Res.ok (some x1)) (Res.ok none)) (rangeL 0 (Int.toNat ((a_states.length : Int) - (1 : Int))))).bind fun l3 => (m_holds a_history a_size a_back).bind fun z4 => cond (!decide ((z4.isNone) = (!l3.isEmpty))) (Res.ok false) ((guard (small62 ((a_states.length : Int) - (1 : Int))) ()).bind fun _ => (forR (ρ := Bool) (fun (s6 : Unit) x7 => (m_torn_copy__v2 a_history a_size x7 (x7 + (1 : Int)) a_back).bind fun z10 => (pinL pyI.ok x7 l3).bind fun z11 => cond (!decide ((!z10.isNone) = z11)) (Res.ok (Ctl.rt false)) (Res.ok (Ctl.nx ()))) (rangeL 0 (Int.toNat ((a_states.length : Int) - (1 : Int)))) ()).bind (Ctl.fin (fun s6 => cond (l3.isEmpty) (Res.ok true) ((m_windows a_history a_size a_back).bind fun z18 => (compR (β := (List (Int × Int))) (fun x19 => Res.ok (some ([(x19, (x19 + (1 : Int)))] : List (Int × Int)))) l3).bind fun l20 => (pinL (pyL (py2 pyI pyI)).ok z18 l20).bind fun z21 => Res.ok z21)) (fun r => Res.ok r)))

def m_torn_copy (a_history : (Str × List (Int × Str))) (a_size : Int) (a_first : Int) (a_last : Unit) (a_down : Bool) : Res (Option Str) :=
  (m_check_asked a_history a_size).bind fun z1 => (plenO (m_History_len a_history)).bind fun z2 => (m_check_within a_first (0 : Int) z2).bind fun z3 => (m_History_states a_history).bind fun z4 => ((plenO (m_History_len a_history)).bind fun z5 => Res.ok z5).bind fun z6 => (m_torn_within z4 a_size a_first z6 a_down).bind fun z7 => Res.ok z7

def m_law (a_script : (List Int)) : Res Bool :=
  (m_law_spring a_script (0 : Int)).bind fun z2 => (m_law_sip z2 (31 : Int)).bind fun z4 => (m_law_cells z4.2 z4.1).bind fun z5 => (plenS z5.1).bind fun z6 => (m_law_writes z5.2 z6 (16 : Int)).bind fun z7 => (m_File_make z5.1).bind fun z8 => (m_History_make z8 (some z7.1)).bind fun z9 => (m_law_states z5.1 z7.1).bind fun z10 => (forR (ρ := Bool) (fun (s11 : (List Int)) x12 => (m_law_sip s11 (3 : Int)).bind fun z15 => (pix ([(3 : Int), (9 : Int), (20 : Int)] : List Int) z15.1).bind fun z16 => (m_law_sip z15.2 z16).bind fun z17 => (forR (ρ := Bool) (fun (s18 : Unit) x19 => (m_law_right z9 z10 ((1 : Int) + z17.1) x19).bind fun z22 => cond z22 (Res.ok (Ctl.nx ())) (Res.ok (Ctl.rt false))) ([false, true] : List Bool) ()).bind (Ctl.fin (fun s18 => Res.ok (Ctl.nx z17.2)) (fun r => Res.ok (Ctl.rt r)))) (rangeL 0 (Int.toNat (2 : Int))) z7.2).bind (Ctl.fin (fun s11 => (plenS z5.1).bind fun z30 => (m_law_sip s11 (2 : Int)).bind fun z31 => (pix ([(5 : Int), ((10 : Int) ^ Int.toNat (38 : Int))] : List Int) z31.1).bind fun z32 => (m_law_sip z31.2 z32).bind fun z33 => (m_holds z9 ((max (1 : Int) z30) + z33.1) false).bind fun z34 => (peq (pyO (pyL pyI) (fun _ => ⟨rfl, rfl⟩)).ok z34 (some ([] : (List Int)))).bind fun z35 => cond (!z35) (Res.ok false) ((m_windows z9 ((max (1 : Int) z30) + z33.1) false).bind fun z37 => cond (!z37.isEmpty) (Res.ok false) ((m_torn_copy z9 ((max (1 : Int) z30) + z33.1) (0 : Int) () false).bind fun z39 => Res.ok (z39.isNone)))) (fun r => Res.ok r))
end Kh

set_option Elab.async false
set_option linter.all false
set_option maxRecDepth 100000
set_option maxHeartbeats 4000000
namespace Kh
open PySem PySem.Spec L2
open PySem.W (Frag)
abbrev PR : Program := PySem.Challenge.rw_keptholes_k63_whole_writes_seen_in_part.prog
section
variable {w : World} {K : Frag} {mg : Str → Option Value} {base : Heap}
def clR (R : Prg K mg) : OK → Addr × List Str
  | .file => (R.C_File, ["row"])
  | .history => (R.C_History, ["start", "rows"])
  | _ => (0, [])
theorem icR (R : Prg K mg) : ∀ k, prR k = true → ICls K (clR R k).1
  | .file, _ => R.L_File
  | .history, _ => R.L_History
  | .full, h => nomatch h
  | .keep, h => nomatch h
  | .lean, h => nomatch h
  | .dig, h => nomatch h
  | .script, h => nomatch h
  | .store, h => nomatch h
  | .copier, h => nomatch h
def exE (R : Prg K mg) : Er → Exn
  | ⟨.file, v⟩ => ⟨R.C_InvalidFile, ["value"], [anyD (clR R) v]⟩
  | ⟨.number, v⟩ => ⟨R.C_InvalidNumber, ["value"], [anyD (clR R) v]⟩
  | ⟨.list, v⟩ => ⟨R.C_InvalidList, ["value"], [anyD (clR R) v]⟩
  | ⟨.write, v⟩ => ⟨R.C_InvalidWrite, ["value"], [anyD (clR R) v]⟩
  | ⟨.history, v⟩ => ⟨R.C_InvalidHistory, ["value"], [anyD (clR R) v]⟩
  | _ => ⟨0, [], []⟩
/-! plain words -/
/-- a whole number of at least so much -/
def chk (d : Dat) (l : Int) : Bool := match d with
  | .int i => decide (l ≤ i)
  | _ => false
theorem chk_int {d : Dat} {l : Int} (h : chk d l = true) : ∃ i, d = .int i ∧ l ≤ i := by
  cases d <;> first | exact ⟨_, rfl, of_decide_eq_true h⟩ | cases h
theorem ln {ds : List Dat} (h : Nat.ble ds.length 1000 = true := by rfl) : ds.length ≤ sizeLine := Nat.le_trans (Nat.le_of_ble_eq_true h) (by decide)
/-- the script: a list of at most 63 whole numbers -/
def spLaw : Spc := fun ds M P _ => ∃ ns : List Int, ns.length ≤ 63 ∧ ds = [.scr ns] ∧ M = [] ∧ P (.bl true) []
theorem law_sp {K : Frag} {H : Hp} {a : Addr} {ns : List Int} (hl : ns.length ≤ 63) (hS : SqL K H a (ns.map V.int)) : toSp K spLaw [.ref a] H (fun v _ => v = .bl true) fun _ _ _ => False := law_spS hS ⟨ns, hl, rfl, rfl, rfl⟩
theorem lnN {n : Nat} (h : Nat.ble n 1000 = true := by rfl) : n ≤ sizeLine := Nat.le_trans (Nat.le_of_ble_eq_true h) (by decide)
def S_law_spring (R : Prg K mg) : Spc := fun ds M P E => ∃ (a_script : (List Int)) (a_at : Int), ds = [(.scr a_script), (.int a_at)] ∧ (m_law_spring a_script a_at).Out (fun r => ∀ q, P (.raw (.ref q)) ((q, .lst (r.map Dat.int)) :: M)) (fun x => E (exE R x) M)
theorem ok_law_spring (R : Prg K mg) : FnD PR w K mg base 1 R.f_law_spring R.d_law_spring P_law_spring (S_law_spring R) := by
  refine fn_d false R.F_law_spring sc_law_spring (fun h => nomatch h) (fun ds M P E ⟨_, _, e, _⟩ => by rw [e]; rfl) fun cdv A outer s H E hr ds M Pd PE h => ?_
  obtain ⟨a_script, a_at, rfl, h⟩ := h
  have hu := hr.units
  refine WS.ends ?_
  refine ws_set <| ex_bin <| ex_bin <| ex_int <| ex_var ⟨rfl, rfl⟩ <| o_mulS (.inl (by decide)) <| ex_int <| o_add <| ?_
  refine ws_ifQ (fun Q τ M' => ∃ s1 : Int, ∃ d3 d4 d5 d6 d7, [some (.scr a_script), some (.int a_at), some (.int s1), d3, d4, d5, d6, d7] = τ ∧ M = M' ∧ Q s1) (ob h) (fun _ h => et_cmp <| ex_var ⟨rfl, rfl⟩ <| ex_callB R.n_len PyProof.Rows.Boot.«len» <| ea_cons <| ex_var ⟨rfl, rfl⟩ <| ea_nil <| c_len_scr <| o_lt <| ⟨_, rfl, cif h (fun h => ?g4) (fun h => ?g5)⟩) ?k27
  case g4 =>
    refine ws_set <| ex_ix <| ex_var ⟨rfl, rfl⟩ <| ex_var ⟨rfl, rfl⟩ <| r_ixScr (ob h) fun z2 h => ?_
    exact ws_nil ⟨z2, _, _, _, _, _, rfl, rfl, h⟩
  case g5 =>
    exact ws_nil ⟨(((17 : Int) * a_at) + (3 : Int)), _, _, _, _, _, rfl, rfl, h⟩
  case k27 =>
    rintro _ _ ⟨s1, d3, d4, d5, d6, d7, rfl, rfl, h⟩
    refine ws_if <| et_cmp <| ex_var ⟨rfl, rfl⟩ <| ex_bin <| ex_int <| ex_int <| o_powW (by decide +kernel) <| o_ge <| ⟨_, rfl, cif h (fun h => ?g12) (fun h => ?g26)⟩
    case g12 =>
      refine ws_set <| ex_bin <| ex_bin <| ex_bin <| ex_bin <| ex_int <| ex_int <| o_powW (by decide +kernel) <| ex_bin <| ex_int <| ex_int <| o_powW (by decide +kernel) <| r_mul (ob h) fun z6 h => ex_bin <| ex_int <| ex_int <| o_powW (by decide +kernel) <| r_mul (ob h) fun z7 h => ex_bin <| ex_int <| ex_int <| o_powW (by decide +kernel) <| r_mul (ob h) fun z8 h => ?_
      exact ws_ret <| ex_lstC <| ea_cons <| ex_bin <| ex_callTy R.n_int PyProof.Rows.Boot.«int» <| ea_cons <| ex_bin <| ex_var ⟨rfl, rfl⟩ <| ex_bin <| ex_int <| ex_int <| o_powW (by decide +kernel) <| o_sub <| ea_nil <| c_int_i <| ex_bin <| ex_var ⟨rfl, rfl⟩ <| ex_var ⟨rfl, rfl⟩ <| r_mul (ob h) fun z9 h => r_mod (ob h) fun z10 h => ea_nil ⟨ln, fun q _ => dN [] (h q)⟩
    case g26 =>
      refine ws_nil ?_
      refine ws_par <| ea_cons <| ex_bin <| ex_callTy R.n_int PyProof.Rows.Boot.«int» <| ea_cons <| ex_bin <| ex_var ⟨rfl, rfl⟩ <| ex_bin <| ex_int <| ex_var ⟨rfl, rfl⟩ <| o_mulS (.inl (by decide)) <| o_add <| ea_nil <| c_int_i <| ex_int <| o_mod (by decide) <| ea_cons <| ex_bin <| ex_callTy R.n_int PyProof.Rows.Boot.«int» <| ea_cons <| ex_var ⟨rfl, rfl⟩ <| ea_nil <| c_int_i <| ex_int <| o_mod (by decide) <| ea_nil ⟨_, _, rfl, ?_⟩
      refine ws_set <| ex_int <| ?_
      refine ws_forT <| ei_rng1 R.n_range <| ex_int <| ⟨(46 : Int), rfl, by decide, foldT Dat.int (xs := (rangeL 0 (Int.toNat (46 : Int)))) (fun (s13 : (Int × Int × Int)) τ M' => ∃ d3 d7, [some (.scr a_script), some (.int a_at), some (.int s1), d3, some (.int s13.1), some (.int s13.2.1), some (.int s13.2.2), d7] = τ ∧ M = M') (ob h) ⟨_, _, rfl, rfl⟩ (fun _ _ _ _ => trivial) ?g22 ?g23⟩
      case g22 =>
        rintro x14 s13 _ _ N ⟨d3, d7, rfl, rfl⟩ h
        refine gx_name  <| ?_
        refine ws_set <| ex_bin <| ex_callTy R.n_int PyProof.Rows.Boot.«int» <| ea_cons <| ex_bin <| ex_bin <| ex_bin <| ex_bin <| ex_var ⟨rfl, rfl⟩ <| ex_int <| o_mulS (.inr (by decide)) <| ex_bin <| ex_var ⟨rfl, rfl⟩ <| ex_int <| o_mulS (.inr (by decide)) <| o_add <| ex_bin <| ex_int <| ex_var ⟨rfl, rfl⟩ <| o_mulS (.inl (by decide)) <| o_add <| ex_int <| o_add <| ea_nil <| c_int_i <| ex_int <| o_mod (by decide) <| ?_
        refine ws_set <| ex_bin <| ex_callTy R.n_int PyProof.Rows.Boot.«int» <| ea_cons <| ex_bin <| ex_bin <| ex_bin <| ex_var ⟨rfl, rfl⟩ <| ex_var ⟨rfl, rfl⟩ <| r_mul (ob h) fun z17 h => ex_bin <| ex_int <| ex_var ⟨rfl, rfl⟩ <| o_mulS (.inl (by decide)) <| o_add <| ex_int <| o_add <| ea_nil <| c_int_i <| ex_int <| o_mod (by decide) <| ?_
        refine ws_set <| ex_bin <| ex_bin <| ex_var ⟨rfl, rfl⟩ <| ex_int <| o_mulS (.inr (by decide)) <| ex_bin <| ex_callTy R.n_int PyProof.Rows.Boot.«int» <| ea_cons <| ex_bin <| ex_bin <| ex_var ⟨rfl, rfl⟩ <| ex_var ⟨rfl, rfl⟩ <| r_mul (ob h) fun z18 h => ex_bin <| ex_int <| ex_var ⟨rfl, rfl⟩ <| o_mulS (.inl (by decide)) <| o_add <| ea_nil <| c_int_i <| ex_int <| o_mod (by decide) <| o_add <| ?_
        exact ws_nil ⟨((((((s13.1 * (39373 : Int)) + (x14 * (977 : Int))) + ((4099 : Int) * a_at)) + (5 : Int)) % (2147483543 : Int)), (((z17 + ((48611 : Int) * x14)) + (2713 : Int)) % (2147483497 : Int)), ((s13.2.2 * (2147483496 : Int)) + ((z18 + ((31 : Int) * x14)) % (2147483496 : Int)))), ⟨_, _, rfl, rfl⟩, h⟩
      case g23 =>
        rintro s13 _ _ ⟨d3, d7, rfl, rfl⟩ h
        exact ws_ret <| ex_lstC <| ea_cons <| ex_var ⟨rfl, rfl⟩ <| ea_nil ⟨ln, fun q _ => dN [] (h q)⟩

def S_law_sip (R : Prg K mg) : Spc := fun ds M P E => ∃ (P_spring : Addr) (a_spring : (List Int)) (a_many : Int), ds = [.raw (.ref P_spring), (.int a_many)] ∧ M = [(P_spring, .lst (a_spring.map Dat.int))] ∧ (m_law_sip a_spring a_many).Out (fun r => P (.int r.1) [(P_spring, .lst (r.2.map Dat.int))]) (fun _ => False)
theorem ok_law_sip (R : Prg K mg) : FnD PR w K mg base 1 R.f_law_sip R.d_law_sip P_law_sip (S_law_sip R) := by
  refine fn_d false R.F_law_sip sc_law_sip (fun h => nomatch h) (fun ds M P E ⟨_, _, _, e, _⟩ => by rw [e]; rfl) fun cdv A outer s H E hr ds M Pd PE h => ?_
  obtain ⟨P_spring, a_spring, a_many, rfl, rfl, h⟩ := h
  have hu := hr.units
  refine WS.ends ?_
  refine ws_set <| ex_bin <| ex_callTy R.n_int PyProof.Rows.Boot.«int» <| ea_cons <| ex_ix <| ex_var ⟨rfl, rfl⟩ <| ex_int <| r_ixC [] Dat.int (xs := a_spring) (ob h) fun z1 h => ea_nil <| c_int_i <| ex_var ⟨rfl, rfl⟩ <| r_mod (ob h) fun z2 h => ?_
  refine ws_asg <| ex_bin <| ex_ix <| ex_var ⟨rfl, rfl⟩ <| ex_int <| r_ixC [] Dat.int (xs := a_spring) (ob h) fun z3 h => ex_var ⟨rfl, rfl⟩ <| r_div (ob h) fun z4 h => gx_subT <| ex_var ⟨rfl, rfl⟩ <| ex_int <| r_set [] Dat.int (xs := a_spring) (x := z4) (ob h) fun z5 h => ?_
  exact ws_ret <| ex_var ⟨rfl, rfl⟩ <| (dN [] h)

def S_law_cells (R : Prg K mg) : Spc := fun ds M P E => ∃ (P_spring : Addr) (a_spring : (List Int)) (a_length : Int), ds = [.raw (.ref P_spring), (.int a_length)] ∧ M = [(P_spring, .lst (a_spring.map Dat.int))] ∧ (m_law_cells a_spring a_length).Out (fun r => P (.str r.1) [(P_spring, .lst (r.2.map Dat.int))]) (fun _ => False)
theorem ok_law_cells (R : Prg K mg) : FnD PR w K mg base 2 R.f_law_cells R.d_law_cells P_law_cells (S_law_cells R) := by
  refine fn_d false R.F_law_cells sc_law_cells (fun h => nomatch h) (fun ds M P E ⟨_, _, _, e, _⟩ => by rw [e]; rfl) fun cdv A outer s H E hr ds M Pd PE h => ?_
  obtain ⟨P_spring, a_spring, a_length, rfl, rfl, h⟩ := h
  have hu := hr.units
  refine WS.ends ?_
  refine ws_set <| ex_ix <| ex_lst <| ea_cons <| ex_str <| ea_cons <| ex_str <| ea_cons <| ex_str <| ea_cons <| ex_str <| ea_nil ⟨ln, ex_callA (ok_law_sip R) (hr.mono (by decide)) R.m_law_sip R.F_law_sip R.b_law_sip <| ea_cons <| ex_var ⟨rfl, rfl⟩ <| ea_cons <| ex_int <| ea_nil <| apC [] ⟨_, a_spring, (4 : Int), rfl, rfl, outC1 (ob h) (fun z1 h => r_ix Dat.str (xs := ([("..0ab" : Str), (".0abcd" : Str), ("aab0." : Str), ("abcdefghijklmnopqrstuvwxyz.0" : Str)] : List Str)) (ob h) fun z2 h => ?_) (fun _ h => h)⟩⟩
  exact ws_ret <| ex_join <| ex_str <| ⟨.str, ea_cons <| ex_lcT [("at", 3)] <| ei_rng1 R.n_range <| ex_var ⟨rfl, rfl⟩ <| ⟨a_length, rfl, (gd (ob h)).1, have h := (gd (ob h)).2; compST Dat.int chD (xs := (rangeL 0 (Int.toNat a_length))) (fun (s5 : (List Int)) => (P_spring, .lst (s5.map Dat.int)) :: []) (ob h) (fun _ => trivial) (fun x4 s5 _ h s H C cl fp => gc_name  <| fun s H C cl fp => ef_nil ⟨fun _ s H C cl fp => ex_ix <| ex_var ⟨rfl, rfl⟩ <| ex_callA (ok_law_sip R) (hr.mono (by decide)) R.m_law_sip R.F_law_sip R.b_law_sip <| ea_cons <| ex_var ⟨rfl, rfl⟩ <| ea_cons <| ex_callB R.n_len PyProof.Rows.Boot.«len» <| ea_cons <| ex_var ⟨rfl, rfl⟩ <| ea_nil <| r_lenS (ob h) fun z6 h => ea_nil <| apC [] ⟨_, s5, z6, rfl, rfl, outC1 (ob h) (fun z7 h => r_ixS (ob h) fun z8 h => ⟨z8, z7.2, rfl, rfl, h⟩) (fun _ h => h)⟩, fun z => nomatch z⟩) (fun l9 h => ea_nil <| r_joinC (xs := l9.1) (ob h) fun z10 h => (dN [] h))⟩⟩

def S_law_text (R : Prg K mg) : Spc := fun ds M P E => ∃ (P_spring : Addr) (a_spring : (List Int)) (a_length : Int), ds = [.raw (.ref P_spring), (.int a_length)] ∧ M = [(P_spring, .lst (a_spring.map Dat.int))] ∧ (m_law_text a_spring a_length).Out (fun r => P (.str r.1) [(P_spring, .lst (r.2.map Dat.int))]) (fun _ => False)
theorem ok_law_text (R : Prg K mg) : FnD PR w K mg base 2 R.f_law_text R.d_law_text P_law_text (S_law_text R) := by
  refine fn_d false R.F_law_text sc_law_text (fun h => nomatch h) (fun ds M P E ⟨_, _, _, e, _⟩ => by rw [e]; rfl) fun cdv A outer s H E hr ds M Pd PE h => ?_
  obtain ⟨P_spring, a_spring, a_length, rfl, rfl, h⟩ := h
  have hu := hr.units
  refine WS.ends ?_
  refine ws_set <| ex_ix <| ex_lst <| ea_cons <| ex_str <| ea_cons <| ex_str <| ea_cons <| ex_str <| ea_cons <| ex_str <| ea_nil ⟨ln, ex_callA (ok_law_sip R) (hr.mono (by decide)) R.m_law_sip R.F_law_sip R.b_law_sip <| ea_cons <| ex_var ⟨rfl, rfl⟩ <| ea_cons <| ex_int <| ea_nil <| apC [] ⟨_, a_spring, (4 : Int), rfl, rfl, outC1 (ob h) (fun z1 h => r_ix Dat.str (xs := ([("0ab" : Str), ("0abcd" : Str), ("ab" : Str), ("abcdefghijklmnopqrstuvwxyz0" : Str)] : List Str)) (ob h) fun z2 h => ?_) (fun _ h => h)⟩⟩
  exact ws_ret <| ex_join <| ex_str <| ⟨.str, ea_cons <| ex_lcT [("at", 3)] <| ei_rng1 R.n_range <| ex_var ⟨rfl, rfl⟩ <| ⟨a_length, rfl, (gd (ob h)).1, have h := (gd (ob h)).2; compST Dat.int chD (xs := (rangeL 0 (Int.toNat a_length))) (fun (s5 : (List Int)) => (P_spring, .lst (s5.map Dat.int)) :: []) (ob h) (fun _ => trivial) (fun x4 s5 _ h s H C cl fp => gc_name  <| fun s H C cl fp => ef_nil ⟨fun _ s H C cl fp => ex_ix <| ex_var ⟨rfl, rfl⟩ <| ex_callA (ok_law_sip R) (hr.mono (by decide)) R.m_law_sip R.F_law_sip R.b_law_sip <| ea_cons <| ex_var ⟨rfl, rfl⟩ <| ea_cons <| ex_callB R.n_len PyProof.Rows.Boot.«len» <| ea_cons <| ex_var ⟨rfl, rfl⟩ <| ea_nil <| r_lenS (ob h) fun z6 h => ea_nil <| apC [] ⟨_, s5, z6, rfl, rfl, outC1 (ob h) (fun z7 h => r_ixS (ob h) fun z8 h => ⟨z8, z7.2, rfl, rfl, h⟩) (fun _ h => h)⟩, fun z => nomatch z⟩) (fun l9 h => ea_nil <| r_joinC (xs := l9.1) (ob h) fun z10 h => (dN [] h))⟩⟩

def S_law_writes (R : Prg K mg) : Spc := fun ds M P E => ∃ (P_spring : Addr) (a_spring : (List Int)) (a_length : Int) (a_most : Int), ds = [.raw (.ref P_spring), (.int a_length), (.int a_most)] ∧ M = [(P_spring, .lst (a_spring.map Dat.int))] ∧ (m_law_writes a_spring a_length a_most).Out (fun r => P ((lstD (pairD Dat.int Dat.str)) r.1) [(P_spring, .lst (r.2.map Dat.int))]) (fun _ => False)
theorem ok_law_writes (R : Prg K mg) : FnD PR w K mg base 3 R.f_law_writes R.d_law_writes P_law_writes (S_law_writes R) := by
  refine fn_d false R.F_law_writes sc_law_writes (fun h => nomatch h) (fun ds M P E ⟨_, _, _, _, e, _⟩ => by rw [e]; rfl) fun cdv A outer s H E hr ds M Pd PE h => ?_
  obtain ⟨P_spring, a_spring, a_length, a_most, rfl, rfl, h⟩ := h
  have hu := hr.units
  refine WS.ends ?_
  refine ws_set <| ex_lstC <| ea_nil ⟨ln, fun q1 _ => ?_⟩
  refine ws_forT <| ei_rng1 R.n_range <| ex_bin <| ex_callA (ok_law_sip R) (hr.mono (by decide)) R.m_law_sip R.F_law_sip R.b_law_sip <| ea_cons <| ex_var ⟨rfl, rfl⟩ <| ea_cons <| ex_bin <| ex_var ⟨rfl, rfl⟩ <| ex_int <| o_add <| ea_nil <| apC [_] ⟨_, a_spring, (a_most + (1 : Int)), rfl, rfl, outC1 (ob h) (fun z2 h => ex_callTy R.n_int PyProof.Rows.Boot.«int» <| ea_cons <| ex_cmp <| ex_var ⟨rfl, rfl⟩ <| ex_int <| o_gt <| ea_nil <| c_int_b <| r_mul (ob h) fun z3 h => ⟨z3, rfl, (gd (ob h)).1, have h := (gd (ob h)).2; foldT Dat.int (xs := (rangeL 0 (Int.toNat z3))) (fun (s4 : ((List (Int × Str)) × (List Int))) τ M' => ∃ d4 d5 d6 d7, [some (.raw (.ref P_spring)), some (.int a_length), some (.int a_most), some (.raw (.ref q1)), d4, d5, d6, d7] = τ ∧ (q1, .lst (s4.1.map (pairD Dat.int Dat.str))) :: (P_spring, .lst (s4.2.map Dat.int)) :: [] = M') (ob h) ⟨_, _, _, _, rfl, rfl⟩ (fun _ _ _ _ => trivial) ?g18 ?g19⟩) (fun _ h => h)⟩
  case g18 =>
    rintro x5 s4 _ _ N ⟨d4, d5, d6, d7, rfl, rfl⟩ h
    refine gx_name  <| ?_
    refine ws_set <| ex_callA (ok_law_sip R) (hr.mono (by decide)) R.m_law_sip R.F_law_sip R.b_law_sip <| ea_cons <| ex_var ⟨rfl, rfl⟩ <| ea_cons <| ex_var ⟨rfl, rfl⟩ <| ea_nil <| apC [_] ⟨_, s4.2, a_length, rfl, rfl, outC1 (ob h) (fun z8 h => ?_) (fun _ h => h)⟩
    refine ws_set <| ex_ix <| ex_lst <| ea_cons <| ex_int <| ea_cons <| ex_int <| ea_cons <| ex_int <| ea_cons <| ex_int <| ea_nil ⟨ln, ex_callA (ok_law_sip R) (hr.mono (by decide)) R.m_law_sip R.F_law_sip R.b_law_sip <| ea_cons <| ex_var ⟨rfl, rfl⟩ <| ea_cons <| ex_int <| ea_nil <| apC [_] ⟨_, z8.2, (4 : Int), rfl, rfl, outC1 (ob h) (fun z9 h => r_ix Dat.int (xs := ([(1 : Int), (2 : Int), (3 : Int), (9 : Int)] : List Int)) (ob h) fun z10 h => ?_) (fun _ h => h)⟩⟩
    refine ws_set <| ex_bin <| ex_int <| ex_callA (ok_law_sip R) (hr.mono (by decide)) R.m_law_sip R.F_law_sip R.b_law_sip <| ea_cons <| ex_var ⟨rfl, rfl⟩ <| ea_cons <| ex_callB R.n_min PyProof.Rows.Boot.«min» <| ea_cons <| ex_bin <| ex_var ⟨rfl, rfl⟩ <| ex_var ⟨rfl, rfl⟩ <| o_sub <| ea_cons <| ex_var ⟨rfl, rfl⟩ <| ea_nil <| c_minT <| ea_nil <| apC [_] ⟨_, z9.2, (min (a_length - z8.1) z10), rfl, rfl, outC1 (ob h) (fun z11 h => o_add <| ?_) (fun _ h => h)⟩
    refine ws_expr <| r_app [] (pairD Dat.int Dat.str) (xs := s4.1) <| ex_var ⟨rfl, rfl⟩ ⟨rfl, rfl, ea_cons <| ex_tup <| ea_cons <| ex_var ⟨rfl, rfl⟩ <| ea_cons <| ex_callA (ok_law_text R) (hr.mono (by decide)) R.m_law_text R.F_law_text R.b_law_text <| ea_cons <| ex_var ⟨rfl, rfl⟩ <| ea_cons <| ex_var ⟨rfl, rfl⟩ <| ea_nil <| apC [_] ⟨_, z11.2, ((1 : Int) + z11.1), rfl, rfl, outC1 (ob h) (fun z13 h => ea_nil ⟨ln, ea_nil <| b_app [] (pairD Dat.int Dat.str) (xs := s4.1) (x := (z8.1, z13.1)) (ob h) fun z12 h => ?_⟩) (fun _ h => h)⟩⟩
    exact ws_nil ⟨(z12, z13.2), ⟨_, _, _, _, rfl, rfl⟩, h⟩
  case g19 =>
    rintro s4 _ _ ⟨d4, d5, d6, d7, rfl, rfl⟩ h
    exact ws_ret <| ex_frz <| ex_var ⟨rfl, rfl⟩ ⟨_, _, _, rfl, (List.perm_middle (l₁ := [])), (dN [] h)⟩

abbrev fileD (R : Prg K mg) (z : Str) : Dat := .obj R.C_File ["row"] [.str z]
abbrev historyD (R : Prg K mg) (z : Str × List (Int × Str)) : Dat := .obj R.C_History ["start", "rows"] [fileD R z.1, lstD (pairD Dat.int Dat.str) z.2]

def S_are_cells (R : Prg K mg) : Spc := fun ds M P E => ∃ (a_value : Str), ds = [(.str a_value)] ∧ (m_are_cells a_value).Out (fun r => P (.bl r) M) (fun x => E (exE R x) M)
theorem ok_are_cells (R : Prg K mg) : FnD PR w K mg base 1 R.f_are_cells R.d_are_cells P_are_cells (S_are_cells R) := by
  refine fn_d false R.F_are_cells sc_are_cells (fun h => nomatch h) (fun ds M P E ⟨_, e, _⟩ => by rw [e]; rfl) fun cdv A outer s H E hr ds M Pd PE h => ?_
  obtain ⟨a_value, rfl, h⟩ := h
  have hu := hr.units
  refine WS.ends ?_
  exact ws_ret <| exJQ Dat.bl (ob h) (fun _ h => exA h (fun _ h => ex_callB R.n_isinstance PyProof.Rows.Boot.«isinstance» <| ea_cons <| ex_var ⟨rfl, rfl⟩ <| ea_cons <| ex_gty R.n_str PyProof.Rows.Boot.«str» <| ea_nil <| c_isi (k := true) (.ty _) .str (by rfl) <| ⟨rfl, true, rfl, h⟩) (fun h => ex_and1 <| ex_cmp <| ex_lcT [("cell", 1)] <| ei_str <| ex_var ⟨rfl, rfl⟩ <| ⟨a_value, rfl, compT chD chD (xs := (signsL a_value)) (ob h) trivial (fun x1 _ h s H C cl fp => gc_name  <| fun s H C cl fp => ef_one <| et_cmp <| ex_var ⟨rfl, rfl⟩ <| ex_bin <| ex_str <| ex_gstr R.g_SIGNS <| r_cat (ob h) fun z2 h => o_notInS <| ⟨_, rfl, cif h (fun h => fun s H C cl fp => ex_var ⟨rfl, rfl⟩ <| ⟨rfl, x1, rfl, h⟩) (fun h => ⟨rfl, h⟩)⟩) (fun l3 h => ex_lst <| ea_nil ⟨ln, r_eqNilT chD hu <| ⟨rfl, (l3.isEmpty), rfl, h⟩⟩)⟩)) fun z4 h => (dN [] h)

def S_File_init (R : Prg K mg) : Spc := fun ds M P E => ∃ q dx z M0, ds = [.raw (.ref q), .str z] ∧ M = (q, .ins R.C_File dx []) :: M0 ∧ (m_File_make z).Out (fun r => P .non ((q, .ins R.C_File dx [("row", .str r)]) :: M0)) (fun x => E (exE R x) M)
theorem ok_File_init (R : Prg K mg) : FnD PR w K mg base 2 R.f_File_init R.d_File_init P_File_init (S_File_init R) := by
  refine fn_dV false R.F_File_init sc_File_init (fun h => nomatch h) (fun ds M P E ⟨_, _, _, _, e, _⟩ => by rw [e]; rfl) fun cdv A outer s H E hr ds M Pd PE h => ?_
  obtain ⟨q, dx, z, M0, rfl, rfl, h⟩ := h
  refine ws_if <| et_not <| et_val <| ex_callF (ok_are_cells R) (hr.mono (by decide)) R.m_are_cells R.F_are_cells R.b_are_cells <| ea_cons <| ex_var ⟨rfl, rfl⟩ <| ea_nil ⟨z, rfl, outU (ob h) (fun b h => ⟨_, rfl, cifN h (fun h => ?g1) (fun h => ?g2)⟩) (fun _ h => h)⟩
  case g1 =>
    refine ws_nil ?_
    exact ws_fld <| ex_var ⟨rfl, rfl⟩ <| ex_var ⟨rfl, rfl⟩ ⟨q, _, dx, [], rfl, List.mem_cons_self, R.L_File.cl, R.A_File_row, by decide, ws_nil (by have h2 : Pd .non ((q, .ins R.C_File dx [("row", .str z)]) :: M0) := h; show Pd .non _; simpa [putC, putD] using h2)⟩
  case g2 => exact ws_raise rfl R.S_InvalidFile R.mc_InvalidFile R.n_super hr <| ex_var ⟨rfl, rfl⟩ h
theorem mk_File {R : Prg K mg} {q dx : Addr} {z : Str} {M : Mem} {P : PK'} {E : XKx} {E1 : Er → Prop} {Q : Str → Prop} (h : (m_File_make z).Out Q E1) (hk : ∀ r, Q r → P (fileD R r) M) (hx : ∀ x, E1 x → E (exE R x) ((q, .ins R.C_File dx []) :: M)) :
    AP (S_File_init R) [.raw (.ref q), .str z] ((q, .ins R.C_File dx []) :: M) (fun d M2 => d = .non ∧ MadeP P q M2) E :=
  ap_all ⟨q, dx, z, M, rfl, rfl, out_mono h (fun r hr => .mk ⟨rfl, made_ok (fs := [("row", .str r)]) (hk r hr)⟩) fun x h => .mk (hx x h)⟩

def S_check_file (R : Prg K mg) : Spc := fun ds M P E => ∃ (a_value : Str), ds = [((fileD R) a_value)] ∧ (m_check_file a_value).Out (fun r => P .non M) (fun x => E (exE R x) M)
theorem ok_check_file (R : Prg K mg) : FnD PR w K mg base 1 R.f_check_file R.d_check_file P_check_file (S_check_file R) := by
  refine fn_d false R.F_check_file sc_check_file (fun h => nomatch h) (fun ds M P E ⟨_, e, _⟩ => by rw [e]; rfl) fun cdv A outer s H E hr ds M Pd PE h => ?_
  obtain ⟨a_value, rfl, h⟩ := h
  have hu := hr.units
  refine WS.ends ?_
  refine ws_if <| et_not <| et_val <| ex_callB R.n_isinstance PyProof.Rows.Boot.«isinstance» <| ea_cons <| ex_var ⟨rfl, rfl⟩ <| ea_cons <| ex_gref R.mc_File <| ea_nil <| c_isi (k := true) (.own _) (.obj R.L_File) R.s_File_File <| ⟨_, rfl, (fun z => absurd z (by decide)), fun _ => ?_⟩
  refine ws_nil ?_
  exact ws_nil (dN [] h)

def S_is_whole (R : Prg K mg) : Spc := fun ds M P E => ∃ (a_value : Int), ds = [(.int a_value)] ∧ (m_is_whole a_value).Out (fun r => P (.bl r) M) (fun x => E (exE R x) M)
theorem ok_is_whole (R : Prg K mg) : FnD PR w K mg base 1 R.f_is_whole R.d_is_whole P_is_whole (S_is_whole R) := by
  refine fn_d false R.F_is_whole sc_is_whole (fun h => nomatch h) (fun ds M P E ⟨_, e, _⟩ => by rw [e]; rfl) fun cdv A outer s H E hr ds M Pd PE h => ?_
  obtain ⟨a_value, rfl, h⟩ := h
  have hu := hr.units
  refine WS.ends ?_
  exact ws_ret <| exJQ Dat.bl (ob h) (fun _ h => exA h (fun _ h => ex_callB R.n_isinstance PyProof.Rows.Boot.«isinstance» <| ea_cons <| ex_var ⟨rfl, rfl⟩ <| ea_cons <| ex_gty R.n_int PyProof.Rows.Boot.«int» <| ea_nil <| c_isi (k := true) (.ty _) .int (by rfl) <| ⟨rfl, true, rfl, h⟩) (fun h => ex_and1 <| ex_not <| ex_callB R.n_isinstance PyProof.Rows.Boot.«isinstance» <| ea_cons <| ex_var ⟨rfl, rfl⟩ <| ea_cons <| ex_gty R.n_bool PyProof.Rows.Boot.«bool» <| ea_nil <| c_isi (k := false) (.ty _) .int (by rfl) <| ⟨_, rfl, ⟨rfl, (!false), rfl, h⟩⟩)) fun z1 h => (dN [] h)

def S_is_content (R : Prg K mg) : Spc := fun ds M P E => ∃ (a_value : Str), ds = [(.str a_value)] ∧ (m_is_content a_value).Out (fun r => P (.bl r) M) (fun x => E (exE R x) M)
theorem ok_is_content (R : Prg K mg) : FnD PR w K mg base 1 R.f_is_content R.d_is_content P_is_content (S_is_content R) := by
  refine fn_d false R.F_is_content sc_is_content (fun h => nomatch h) (fun ds M P E ⟨_, e, _⟩ => by rw [e]; rfl) fun cdv A outer s H E hr ds M Pd PE h => ?_
  obtain ⟨a_value, rfl, h⟩ := h
  have hu := hr.units
  refine WS.ends ?_
  exact ws_ret <| exJQ Dat.bl (ob h) (fun _ h => exA h (fun _ h => ex_callB R.n_isinstance PyProof.Rows.Boot.«isinstance» <| ea_cons <| ex_var ⟨rfl, rfl⟩ <| ea_cons <| ex_gty R.n_str PyProof.Rows.Boot.«str» <| ea_nil <| c_isi (k := true) (.ty _) .str (by rfl) <| ⟨rfl, true, rfl, h⟩) (fun h => ex_and1 <| ex_cmp <| ex_lcT [("cell", 1)] <| ei_str <| ex_var ⟨rfl, rfl⟩ <| ⟨a_value, rfl, compT chD chD (xs := (signsL a_value)) (ob h) trivial (fun x1 _ h s H C cl fp => gc_name  <| fun s H C cl fp => ef_one <| et_cmp <| ex_var ⟨rfl, rfl⟩ <| ex_bin <| ex_str <| ex_gstr R.g_SIGNS <| r_cat (ob h) fun z2 h => o_notInS <| ⟨_, rfl, cif h (fun h => fun s H C cl fp => ex_var ⟨rfl, rfl⟩ <| ⟨rfl, x1, rfl, h⟩) (fun h => ⟨rfl, h⟩)⟩) (fun l3 h => ex_lst <| ea_nil ⟨ln, r_eqNilT chD hu <| ⟨rfl, (l3.isEmpty), rfl, h⟩⟩)⟩)) fun z4 h => (dN [] h)

def S_is_write (R : Prg K mg) : Spc := fun ds M P E => ∃ (a_value : (Int × Str)) (a_length : Int), ds = [((pairD Dat.int Dat.str) a_value), (.int a_length)] ∧ (m_is_write a_value a_length).Out (fun r => P (.bl r) M) (fun x => E (exE R x) M)
theorem ok_is_write (R : Prg K mg) : FnD PR w K mg base 2 R.f_is_write R.d_is_write P_is_write (S_is_write R) := by
  refine fn_d false R.F_is_write sc_is_write (fun h => nomatch h) (fun ds M P E ⟨_, _, e, _⟩ => by rw [e]; rfl) fun cdv A outer s H E hr ds M Pd PE h => ?_
  obtain ⟨a_value, a_length, rfl, h⟩ := h
  have hu := hr.units
  refine WS.ends ?_
  refine ws_if <| et_w <| ew_or <| et_not <| et_val <| ex_callB R.n_isinstance PyProof.Rows.Boot.«isinstance» <| ea_cons <| ex_var ⟨rfl, rfl⟩ <| ea_cons <| ex_gty R.n_tuple PyProof.Rows.Boot.«tuple» <| ea_nil <| c_isi (k := true) (.ty _) .tup (by rfl) <| ⟨_, rfl, (fun z => absurd z (by decide)), fun _ => ew_or <| et_cmp <| ex_callB R.n_len PyProof.Rows.Boot.«len» <| ea_cons <| ex_var ⟨rfl, rfl⟩ <| ea_nil <| c_len_tup <| ex_int <| o_neI <| ⟨_, rfl, cif h (fun h => ⟨fun _ => ?g1, fun z => nomatch z⟩) (fun h => ew_or <| et_not <| et_val <| ex_callF (ok_is_whole R) (hr.mono (by decide)) R.m_is_whole R.F_is_whole R.b_is_whole <| ea_cons <| ex_ix <| ex_var ⟨rfl, rfl⟩ <| ex_int <| i_tup rfl <| ea_nil <| ⟨a_value.1, rfl, outU (ob h) (fun z2 h => ⟨_, rfl, cifN h (fun h => ew_or1 <| et_not <| et_val <| ex_callF (ok_is_content R) (hr.mono (by decide)) R.m_is_content R.F_is_content R.b_is_content <| ea_cons <| ex_ix <| ex_var ⟨rfl, rfl⟩ <| ex_int <| i_tup rfl <| ea_nil <| ⟨a_value.2, rfl, outU (ob h) (fun z4 h => ⟨_, rfl, cifN h (fun h => ?g8) (fun h => ?g5)⟩) (fun _ h => dX [] h)⟩) (fun h => ⟨fun _ => ?g3, fun z => nomatch z⟩)⟩) (fun _ h => dX [] h)⟩)⟩⟩
  case g1 =>
    exact ws_ret <| ex_bl <| (dN [] h)
  case g3 =>
    exact ws_ret <| ex_bl <| (dN [] h)
  case g5 =>
    exact ws_ret <| ex_bl <| (dN [] h)
  case g8 =>
    refine ws_nil ?_
    exact ws_ret <| exJQ Dat.bl (ob h) (fun _ h => exA h (fun _ h => ex_cmp <| ex_ix <| ex_var ⟨rfl, rfl⟩ <| ex_int <| i_tup rfl <| ex_int <| o_ge <| ⟨rfl, (decide ((0 : Int) ≤ a_value.1)), rfl, h⟩) (fun h => exA h (fun _ h => ex_cmp <| ex_ix <| ex_var ⟨rfl, rfl⟩ <| ex_int <| i_tup rfl <| ex_str <| o_neT <| ⟨rfl, (!decide (a_value.2 = ("" : Str))), rfl, h⟩) (fun h => ex_and1 <| ex_cmp <| ex_bin <| ex_ix <| ex_var ⟨rfl, rfl⟩ <| ex_int <| i_tup rfl <| ex_callB R.n_len PyProof.Rows.Boot.«len» <| ea_cons <| ex_ix <| ex_var ⟨rfl, rfl⟩ <| ex_int <| i_tup rfl <| ea_nil <| r_lenS (ob h) fun z6 h => o_add <| ex_var ⟨rfl, rfl⟩ <| o_le <| ⟨rfl, (decide ((a_value.1 + z6) ≤ a_length)), rfl, h⟩))) fun z7 h => (dN [] h)

def S_check_write (R : Prg K mg) : Spc := fun ds M P E => ∃ (a_value : (Int × Str)) (a_length : Int), ds = [((pairD Dat.int Dat.str) a_value), (.int a_length)] ∧ (m_check_write a_value a_length).Out (fun r => P .non M) (fun x => E (exE R x) M)
theorem ok_check_write (R : Prg K mg) : FnD PR w K mg base 3 R.f_check_write R.d_check_write P_check_write (S_check_write R) := by
  refine fn_d false R.F_check_write sc_check_write (fun h => nomatch h) (fun ds M P E ⟨_, _, e, _⟩ => by rw [e]; rfl) fun cdv A outer s H E hr ds M Pd PE h => ?_
  obtain ⟨a_value, a_length, rfl, h⟩ := h
  have hu := hr.units
  refine WS.ends ?_
  refine ws_if <| et_not <| et_val <| ex_callF (ok_is_write R) (hr.mono (by decide)) R.m_is_write R.F_is_write R.b_is_write <| ea_cons <| ex_var ⟨rfl, rfl⟩ <| ea_cons <| ex_var ⟨rfl, rfl⟩ <| ea_nil <| ⟨a_value, a_length, rfl, outU (ob h) (fun z1 h => ⟨_, rfl, cifN h (fun h => ?g3) (fun h => ?g2)⟩) (fun _ h => dX [] h)⟩
  case g2 =>
    exact ws_raise rfl R.S_InvalidWrite R.mc_InvalidWrite R.n_super hr <| ex_asA <| ex_var ⟨rfl, rfl⟩ <| ⟨anyD (clR R) (Any.tup [(Any.int a_value.1), (Any.str a_value.2)]), (by first | rfl | (simp only [anyD, anyDL, anyDL_map, List.map_map]; done) | (simp only [anyD, anyDL, anyDL_map, List.map_map]; rfl) | (simp only [anyD, anyDL, anyDL_map, List.map_map, stepA_comp, stepA_D]; rfl) | (simp only [anyD, anyDL, anyDL_map, List.map_map, stepA_comp, stepA_D]; done)), (dX [] h)⟩
  case g3 =>
    refine ws_nil ?_
    exact ws_nil (dN [] h)

def S_File_len (R : Prg K mg) : Spc := fun ds M P E => ∃ (a_self : Str), ds = [((fileD R) a_self)] ∧ (m_File_len a_self).Out (fun r => P (.int r) M) (fun x => E (exE R x) M)
theorem ok_File_len (R : Prg K mg) : FnD PR w K mg base 1 R.f_File_len R.d_File_len P_File_len (S_File_len R) := by
  refine fn_d false R.F_File_len sc_File_len (fun h => nomatch h) (fun ds M P E ⟨_, e, _⟩ => by rw [e]; rfl) fun cdv A outer s H E hr ds M Pd PE h => ?_
  obtain ⟨a_self, rfl, h⟩ := h
  have hu := hr.units
  refine WS.ends ?_
  exact ws_ret <| ex_callB R.n_len PyProof.Rows.Boot.«len» <| ea_cons <| ex_fld <| ex_var ⟨rfl, rfl⟩ <| ⟨_, ⟨_, R.L_File.cl, R.A_File_row, .inl ⟨_, _, rfl, rfl, rfl⟩⟩, ea_nil <| r_lenS (ob h) fun z1 h => (dN [] h)⟩

def S_History_init (R : Prg K mg) : Spc := fun ds M P E => ∃ (P_self dx_P_self : Addr) (a_file : Str) (a_writes : (Option (List (Int × Str)))) (M0 : Mem), ds = [.raw (.ref P_self), ((fileD R) a_file), ((optD (lstD (pairD Dat.int Dat.str))) a_writes)] ∧ M = (P_self, .ins R.C_History dx_P_self []) :: M0 ∧ (m_History_make a_file a_writes).Out (fun r => P .non ((P_self, .ins R.C_History dx_P_self [("start", ((fileD R) r.1)), ("rows", ((lstD (pairD Dat.int Dat.str)) r.2))]) :: M0)) (fun x => E (exE R x) M)
theorem ok_History_init (R : Prg K mg) : FnD PR w K mg base 4 R.f_History_init R.d_History_init P_History_init (S_History_init R) := by
  refine fn_dV false R.F_History_init sc_History_init (fun h => nomatch h) (fun ds M P E ⟨_, _, _, _, _, e, _⟩ => by rw [e]; rfl) fun cdv A outer s H E hr ds M Pd PE h => ?_
  obtain ⟨P_self, dx_P_self, a_file, a_writes, M0, rfl, rfl, h⟩ := h
  have hu := hr.units
  refine WS.ends ?_
  refine ws_expr <| ex_callF (ok_check_file R) (hr.mono (by decide)) R.m_check_file R.F_check_file R.b_check_file <| ea_cons <| ex_var ⟨rfl, rfl⟩ <| ea_nil <| ⟨a_file, rfl, outU (ob h) (fun z1 h => ?_) (fun _ h => dX [] h)⟩
  refine ws_set <| exJQ (lstD (pairD Dat.int Dat.str)) (ob h) (fun _ h => (match a_writes, h with | none, h => ex_if <| et_cmp <| ex_var ⟨rfl, rfl⟩ <| ex_non <| o_isNN ⟨_, rfl, (fun _ => ex_lst <| ea_nil ⟨ln, ⟨rfl, ([] : List (Int × Str)), rfl, h⟩⟩), fun z => nomatch z⟩ | some z2, h => ex_if <| et_cmp <| ex_var ⟨rfl, rfl⟩ <| ex_non <| o_isNA rfl ⟨_, rfl, (fun z => nomatch z), fun _ => ex_var ⟨rfl, rfl⟩ ⟨rfl, z2, rfl, h⟩⟩)) fun z3 h => ?_
  refine ws_if <| et_not <| et_val <| ex_callB R.n_isinstance PyProof.Rows.Boot.«isinstance» <| ea_cons <| ex_var ⟨rfl, rfl⟩ <| ea_cons <| ex_gty R.n_list PyProof.Rows.Boot.«list» <| ea_nil <| c_isi (k := true) (.ty _) .lst (by rfl) <| ⟨_, rfl, (fun z => absurd z (by decide)), fun _ => ?_⟩
  refine ws_nil ?_
  refine ws_forT <| ei_list <| ex_var ⟨rfl, rfl⟩ <| ⟨_, rfl, foldT (pairD Dat.int Dat.str) (xs := z3) (fun (s4 : Unit) τ M' => ∃ d4, [some (.raw (.ref P_self)), some ((fileD R) a_file), some ((optD (lstD (pairD Dat.int Dat.str))) a_writes), some ((lstD (pairD Dat.int Dat.str)) z3), d4] = τ ∧ (P_self, .ins R.C_History dx_P_self []) :: M0 = M') (ob h) ⟨_, rfl, rfl⟩ (fun _ _ _ _ => trivial) ?g11 ?g12⟩
  case g11 =>
    rintro x5 s4 _ _ N ⟨d4, rfl, rfl⟩ h
    refine gx_name  <| ?_
    refine ws_expr <| ex_callF (ok_check_write R) (hr.mono (by decide)) R.m_check_write R.F_check_write R.b_check_write <| ea_cons <| ex_var ⟨rfl, rfl⟩ <| ea_cons <| ex_callB R.n_len PyProof.Rows.Boot.«len» <| ea_cons <| ex_var ⟨rfl, rfl⟩ <| ea_nil <| c_lenOwn (ok_File_len R) (hr.mono (by decide)) R.M_File_len.1 R.M_File_len.2 R.b_File_len (fun _ => .inl ⟨_, _, rfl, by decide⟩) ⟨a_file, rfl, lenO (ob h) fun z8 h => ea_nil <| ⟨x5, z8, rfl, outU (ob h) (fun z9 h => ?_) (fun _ h => dX [] h)⟩⟩
    exact ws_nil ⟨(), ⟨_, rfl, rfl⟩, h⟩
  case g12 =>
    rintro s4 _ _ ⟨d4, rfl, rfl⟩ h
    refine ws_fldA <| ex_var ⟨rfl, rfl⟩ <| ex_var ⟨rfl, rfl⟩ ⟨P_self, R.C_History, dx_P_self, [], [("start", ((fileD R) a_file))], [], _, rfl, rfl, R.L_History.cl, R.A_History_start, (by simp), (by first | rfl | simp [putD]), ?_⟩
    refine ws_fldA <| ex_callTy R.n_list PyProof.Rows.Boot.«list» <| ea_cons <| ex_var ⟨rfl, rfl⟩ <| ea_nil <| c_listT (pairD Dat.int Dat.str) (xs := z3) <| ex_var ⟨rfl, rfl⟩ ⟨P_self, R.C_History, dx_P_self, [("start", ((fileD R) a_file))], [("start", ((fileD R) a_file)), ("rows", ((lstD (pairD Dat.int Dat.str)) z3))], [], _, rfl, rfl, R.L_History.cl, R.A_History_rows, (by simp), (by first | rfl | simp [putD]), ?_⟩
    exact ws_nil (dN [] h)
theorem mk_History {R : Prg K mg} {q dx : Addr} {a_file : Str} {a_writes : (Option (List (Int × Str)))} {M : Mem} {P : PK'} {E : XKx} {E1 : Er → Prop} {Q : (Str × List (Int × Str)) → Prop} (h : (m_History_make a_file a_writes).Out Q E1) (hk : ∀ r, Q r → P (historyD R r) M) (hx : ∀ x, E1 x → E (exE R x) ((q, .ins R.C_History dx []) :: M)) :
    AP (S_History_init R) [.raw (.ref q), ((fileD R) a_file), ((optD (lstD (pairD Dat.int Dat.str))) a_writes)] ((q, .ins R.C_History dx []) :: M) (fun d M2 => d = .non ∧ MadeP P q M2) E :=
  ap_all ⟨q, dx, a_file, a_writes, M, rfl, rfl, out_mono h (fun r hr => .mk ⟨rfl, made_ok (fs := [("start", ((fileD R) r.1)), ("rows", ((lstD (pairD Dat.int Dat.str)) r.2))]) (hk r hr)⟩) fun x h => .mk (hx x h)⟩

def S_law_states (R : Prg K mg) : Spc := fun ds M P E => ∃ (a_cells : Str) (a_writes : (List (Int × Str))), ds = [(.str a_cells), ((lstD (pairD Dat.int Dat.str)) a_writes)] ∧ (m_law_states a_cells a_writes).Out (fun r => P ((lstD Dat.str) r) M) (fun x => E (exE R x) M)
theorem ok_law_states (R : Prg K mg) : FnD PR w K mg base 1 R.f_law_states R.d_law_states P_law_states (S_law_states R) := by
  refine fn_d true R.F_law_states sc_law_states (fun _ => ⟨"cells", by decide, by rfl⟩) (fun ds M P E ⟨_, _, e, _⟩ => by rw [e]; rfl) fun cdv A outer s H E hr ds M Pd PE h => ?_
  obtain ⟨a_cells, a_writes, rfl, h⟩ := h
  have hu := hr.units
  refine WS.ends ?_
  refine ws_set <| ex_lstC <| ea_cons <| ex_repl <| ex_var ⟨rfl, rfl⟩ <| ⟨_, _, _, rfl, ob h, fun z2 h => ea_nil ⟨ln, fun q1 _ => ?_⟩⟩
  refine ws_forT <| ei_list <| ex_var ⟨rfl, rfl⟩ <| ⟨_, rfl, foldT (pairD Dat.int Dat.str) (xs := a_writes) (fun (s3 : (List Str)) τ M' => ∃ d3 d4 d5, [some (.str a_cells), some ((lstD (pairD Dat.int Dat.str)) a_writes), some (.raw (.ref q1)), d3, d4, d5] = τ ∧ (q1, .lst (s3.map Dat.str)) :: M = M') (ob h) ⟨_, _, _, rfl, rfl⟩ (fun _ _ _ _ => trivial) ?g16 ?g17⟩
  case g16 =>
    rintro x4 s3 _ _ N ⟨d3, d4, d5, rfl, rfl⟩ h
    refine gx_tup <| gxs_cons <| gx_name  <| gxs_cons <| gx_name  <| gxs_nil <| ?_
    refine ws_set <| ex_ix <| ex_var ⟨rfl, rfl⟩ <| ex_neg <| ex_int <| ⟨_, rfl, r_ixC [] Dat.str (xs := s3) (ob h) fun z7 h => ?_⟩
    refine ws_expr <| r_app [] Dat.str (xs := s3) <| ex_var ⟨rfl, rfl⟩ ⟨rfl, rfl, ea_cons <| ex_bin <| ex_bin <| ex_sl <| ex_var ⟨rfl, rfl⟩ <| ep_none <| ep_some <| ex_var ⟨rfl, rfl⟩ <| ⟨_, rfl, r_slS (ob h) fun z9 h => ex_var ⟨rfl, rfl⟩ <| r_cat (ob h) fun z10 h => ex_sl <| ex_var ⟨rfl, rfl⟩ <| ep_some <| ex_bin <| ex_var ⟨rfl, rfl⟩ <| ex_callB R.n_len PyProof.Rows.Boot.«len» <| ea_cons <| ex_var ⟨rfl, rfl⟩ <| ea_nil <| r_lenS (ob h) fun z11 h => o_add <| ⟨_, rfl, ep_none <| r_slS (ob h) fun z12 h => r_cat (ob h) fun z13 h => ea_nil <| b_app [] Dat.str (xs := s3) (x := z13) (ob h) fun z8 h => ?_⟩⟩⟩
    exact ws_nil ⟨z8, ⟨_, _, _, rfl, rfl⟩, h⟩
  case g17 =>
    rintro s3 _ _ ⟨d3, d4, d5, rfl, rfl⟩ h
    exact ws_ret <| ex_frz <| ex_var ⟨rfl, rfl⟩ ⟨_, _, _, rfl, (List.perm_middle (l₁ := [])), (dN [] h)⟩

def S_law_seen (R : Prg K mg) : Spc := fun ds M P E => ∃ (a_states : (List Str)) (a_size : Int) (a_back : Bool) (a_t : Int), ds = [((lstD Dat.str) a_states), (.int a_size), (.bl a_back), (.int a_t)] ∧ (m_law_seen a_states a_size a_back a_t).Out (fun r => P (.bl r) M) (fun x => E (exE R x) M)
theorem ok_law_seen (R : Prg K mg) : FnD PR w K mg base 1 R.f_law_seen R.d_law_seen P_law_seen (S_law_seen R) := by
  refine fn_d false R.F_law_seen sc_law_seen (fun h => nomatch h) (fun ds M P E ⟨_, _, _, _, e, _⟩ => by rw [e]; rfl) fun cdv A outer s H E hr ds M Pd PE h => ?_
  obtain ⟨a_states, a_size, a_back, a_t, rfl, h⟩ := h
  have hu := hr.units
  refine WS.ends ?_
  refine ws_par <| ea_cons <| ex_ix <| ex_var ⟨rfl, rfl⟩ <| ex_var ⟨rfl, rfl⟩ <| r_ix Dat.str (xs := a_states) (ob h) fun z1 h => ea_cons <| ex_ix <| ex_var ⟨rfl, rfl⟩ <| ex_bin <| ex_var ⟨rfl, rfl⟩ <| ex_int <| o_add <| r_ix Dat.str (xs := a_states) (ob h) fun z2 h => ea_nil ⟨_, _, rfl, ?_⟩
  refine ws_forT <| ei_rng3B R.n_range <| ex_int <| ex_bin <| ex_callB R.n_len PyProof.Rows.Boot.«len» <| ea_cons <| ex_var ⟨rfl, rfl⟩ <| ea_nil <| r_lenS (ob h) fun z3 h => ex_var ⟨rfl, rfl⟩ <| o_add <| ex_var ⟨rfl, rfl⟩ <| ⟨(0 : Int), (z3 + a_size), a_size, rfl, rfl, rfl, (gd (ob h)).1, have h := (gd (ob h)).2; forT Dat.int (xs := (rangeC (0 : Int) a_size (Int.toNat (((z3 + a_size) - (0 : Int) + a_size - 1) / a_size)))) (fun (s4 : Unit) τ M' => ∃ d6 d7, [some ((lstD Dat.str) a_states), some (.int a_size), some (.bl a_back), some (.int a_t), some (.str z1), some (.str z2), d6, d7] = τ ∧ M = M') (ob h) ⟨_, _, rfl, rfl⟩ (fun _ _ _ _ => trivial) ?g23 ?g24⟩
  case g23 =>
    rintro x5 s4 _ _ N ⟨d6, d7, rfl, rfl⟩ h hrt6
    refine gx_name  <| ?_
    refine ws_set <| ex_bin <| ex_sl <| ex_var ⟨rfl, rfl⟩ <| ep_none <| ep_some <| ex_var ⟨rfl, rfl⟩ <| ⟨_, rfl, r_slS (ob h) fun z8 h => ex_sl <| ex_var ⟨rfl, rfl⟩ <| ep_some <| ex_var ⟨rfl, rfl⟩ <| ⟨_, rfl, ep_none <| r_slS (ob h) fun z9 h => r_cat (ob h) fun z10 h => ?_⟩⟩
    refine ws_ifQ (fun Q τ M' => ∃ s11 : Str, [some ((lstD Dat.str) a_states), some (.int a_size), some (.bl a_back), some (.int a_t), some (.str z1), some (.str z2), some (.int x5), some (.str s11)] = τ ∧ M = M' ∧ Q s11) (ob h) (fun _ h => et_val <| ex_var ⟨rfl, rfl⟩ <| ⟨_, rfl, cif h (fun h => ?g16) (fun h => ?g17)⟩) ?k21
    case g16 =>
      refine ws_set <| ex_bin <| ex_sl <| ex_var ⟨rfl, rfl⟩ <| ep_none <| ep_some <| ex_var ⟨rfl, rfl⟩ <| ⟨_, rfl, r_slS (ob h) fun z12 h => ex_sl <| ex_var ⟨rfl, rfl⟩ <| ep_some <| ex_var ⟨rfl, rfl⟩ <| ⟨_, rfl, ep_none <| r_slS (ob h) fun z13 h => r_cat (ob h) fun z14 h => ?_⟩⟩
      exact ws_nil ⟨z14, rfl, rfl, h⟩
    case g17 =>
      exact ws_nil ⟨z10, rfl, rfl, h⟩
    case k21 =>
      rintro _ _ ⟨s11, rfl, rfl, h⟩
      refine ws_if <| et_cmp <| ex_var ⟨rfl, rfl⟩ <| ex_var ⟨rfl, rfl⟩ <| r_notInL pyS (a := s11) (xs := a_states) (un65 hr) (.inl rfl) (ob h) fun z18 h => ⟨_, rfl, cif h (fun h => ?g19) (fun h => ?g20)⟩
      case g19 =>
        exact ws_ret <| ex_bl <| (dN [] (hrt6 _ h))
      case g20 =>
        refine ws_nil ?_
        exact ws_nil ⟨(), ⟨_, _, rfl, rfl⟩, h⟩
  case g24 =>
    rintro s4 _ _ ⟨d6, d7, rfl, rfl⟩ h
    replace h := finO h
    exact ws_ret <| ex_bl <| (dN [] h)

def S_check_history (R : Prg K mg) : Spc := fun ds M P E => ∃ (a_value : (Str × List (Int × Str))), ds = [((historyD R) a_value)] ∧ (m_check_history a_value).Out (fun r => P .non M) (fun x => E (exE R x) M)
theorem ok_check_history (R : Prg K mg) : FnD PR w K mg base 1 R.f_check_history R.d_check_history P_check_history (S_check_history R) := by
  refine fn_d false R.F_check_history sc_check_history (fun h => nomatch h) (fun ds M P E ⟨_, e, _⟩ => by rw [e]; rfl) fun cdv A outer s H E hr ds M Pd PE h => ?_
  obtain ⟨a_value, rfl, h⟩ := h
  have hu := hr.units
  refine WS.ends ?_
  refine ws_if <| et_not <| et_val <| ex_callB R.n_isinstance PyProof.Rows.Boot.«isinstance» <| ea_cons <| ex_var ⟨rfl, rfl⟩ <| ea_cons <| ex_gref R.mc_History <| ea_nil <| c_isi (k := true) (.own _) (.obj R.L_History) R.s_History_History <| ⟨_, rfl, (fun z => absurd z (by decide)), fun _ => ?_⟩
  refine ws_nil ?_
  exact ws_nil (dN [] h)

def S_check_least (R : Prg K mg) : Spc := fun ds M P E => ∃ (a_value : Int) (a_least : Int), ds = [(.int a_value), (.int a_least)] ∧ (m_check_least a_value a_least).Out (fun r => P .non M) (fun x => E (exE R x) M)
theorem ok_check_least (R : Prg K mg) : FnD PR w K mg base 2 R.f_check_least R.d_check_least P_check_least (S_check_least R) := by
  refine fn_d false R.F_check_least sc_check_least (fun h => nomatch h) (fun ds M P E ⟨_, _, e, _⟩ => by rw [e]; rfl) fun cdv A outer s H E hr ds M Pd PE h => ?_
  obtain ⟨a_value, a_least, rfl, h⟩ := h
  have hu := hr.units
  refine WS.ends ?_
  refine ws_if <| et_w <| ew_or <| et_not <| et_val <| ex_callF (ok_is_whole R) (hr.mono (by decide)) R.m_is_whole R.F_is_whole R.b_is_whole <| ea_cons <| ex_var ⟨rfl, rfl⟩ <| ea_nil <| ⟨a_value, rfl, outU (ob h) (fun z1 h => ⟨_, rfl, cifN h (fun h => ew_or1 <| et_cmp <| ex_var ⟨rfl, rfl⟩ <| ex_var ⟨rfl, rfl⟩ <| o_lt <| ⟨_, rfl, cif h (fun h => ?g3) (fun h => ?g4)⟩) (fun h => ⟨fun _ => ?g2, fun z => nomatch z⟩)⟩) (fun _ h => dX [] h)⟩
  case g2 =>
    exact ws_raise rfl R.S_InvalidNumber R.mc_InvalidNumber R.n_super hr <| ex_asA <| ex_var ⟨rfl, rfl⟩ <| ⟨anyD (clR R) (Any.int a_value), (by first | rfl | (simp only [anyD, anyDL, anyDL_map, List.map_map]; done) | (simp only [anyD, anyDL, anyDL_map, List.map_map]; rfl) | (simp only [anyD, anyDL, anyDL_map, List.map_map, stepA_comp, stepA_D]; rfl) | (simp only [anyD, anyDL, anyDL_map, List.map_map, stepA_comp, stepA_D]; done)), (dX [] h)⟩
  case g3 =>
    exact ws_raise rfl R.S_InvalidNumber R.mc_InvalidNumber R.n_super hr <| ex_asA <| ex_var ⟨rfl, rfl⟩ <| ⟨anyD (clR R) (Any.int a_value), (by first | rfl | (simp only [anyD, anyDL, anyDL_map, List.map_map]; done) | (simp only [anyD, anyDL, anyDL_map, List.map_map]; rfl) | (simp only [anyD, anyDL, anyDL_map, List.map_map, stepA_comp, stepA_D]; rfl) | (simp only [anyD, anyDL, anyDL_map, List.map_map, stepA_comp, stepA_D]; done)), (dX [] h)⟩
  case g4 =>
    refine ws_nil ?_
    exact ws_nil (dN [] h)

def S_check_asked (R : Prg K mg) : Spc := fun ds M P E => ∃ (a_history : (Str × List (Int × Str))) (a_size : Int), ds = [((historyD R) a_history), (.int a_size)] ∧ (m_check_asked a_history a_size).Out (fun r => P .non M) (fun x => E (exE R x) M)
theorem ok_check_asked (R : Prg K mg) : FnD PR w K mg base 3 R.f_check_asked R.d_check_asked P_check_asked (S_check_asked R) := by
  refine fn_d false R.F_check_asked sc_check_asked (fun h => nomatch h) (fun ds M P E ⟨_, _, e, _⟩ => by rw [e]; rfl) fun cdv A outer s H E hr ds M Pd PE h => ?_
  obtain ⟨a_history, a_size, rfl, h⟩ := h
  have hu := hr.units
  refine WS.ends ?_
  refine ws_expr <| ex_callF (ok_check_history R) (hr.mono (by decide)) R.m_check_history R.F_check_history R.b_check_history <| ea_cons <| ex_var ⟨rfl, rfl⟩ <| ea_nil <| ⟨a_history, rfl, outU (ob h) (fun z1 h => ?_) (fun _ h => dX [] h)⟩
  refine ws_expr <| ex_callF (ok_check_least R) (hr.mono (by decide)) R.m_check_least R.F_check_least R.b_check_least <| ea_cons <| ex_var ⟨rfl, rfl⟩ <| ea_cons <| ex_int <| ea_nil <| ⟨a_size, (1 : Int), rfl, outU (ob h) (fun z2 h => ?_) (fun _ h => dX [] h)⟩
  exact ws_nil (dN [] h)

def S_File_content (R : Prg K mg) : Spc := fun ds M P E => ∃ (a_self : Str), ds = [((fileD R) a_self)] ∧ (m_File_content a_self).Out (fun r => P (.str r) M) (fun x => E (exE R x) M)
theorem ok_File_content (R : Prg K mg) : FnD PR w K mg base 1 R.f_File_content R.d_File_content P_File_content (S_File_content R) := by
  refine fn_d true R.F_File_content sc_File_content (fun _ => ⟨"self", by decide, by rfl⟩) (fun ds M P E ⟨_, e, _⟩ => by rw [e]; rfl) fun cdv A outer s H E hr ds M Pd PE h => ?_
  obtain ⟨a_self, rfl, h⟩ := h
  have hu := hr.units
  refine WS.ends ?_
  exact ws_ret <| ex_repl <| ex_fld <| ex_var ⟨rfl, rfl⟩ <| ⟨_, ⟨_, R.L_File.cl, R.A_File_row, .inl ⟨_, _, rfl, rfl, rfl⟩⟩, ⟨_, _, _, rfl, ob h, fun z1 h => (dN [] h)⟩⟩

def S_written (R : Prg K mg) : Spc := fun ds M P E => ∃ (a_row : Str) (a_begin : Int) (a_text : Str), ds = [(.str a_row), (.int a_begin), (.str a_text)] ∧ (m_written a_row a_begin a_text).Out (fun r => P (.str r) M) (fun x => E (exE R x) M)
theorem ok_written (R : Prg K mg) : FnD PR w K mg base 1 R.f_written R.d_written P_written (S_written R) := by
  refine fn_d false R.F_written sc_written (fun h => nomatch h) (fun ds M P E ⟨_, _, _, e, _⟩ => by rw [e]; rfl) fun cdv A outer s H E hr ds M Pd PE h => ?_
  obtain ⟨a_row, a_begin, a_text, rfl, h⟩ := h
  have hu := hr.units
  refine WS.ends ?_
  exact ws_ret <| ex_bin <| ex_bin <| ex_sl <| ex_var ⟨rfl, rfl⟩ <| ep_none <| ep_some <| ex_var ⟨rfl, rfl⟩ <| ⟨_, rfl, r_slS (ob h) fun z1 h => ex_var ⟨rfl, rfl⟩ <| r_cat (ob h) fun z2 h => ex_sl <| ex_var ⟨rfl, rfl⟩ <| ep_some <| ex_bin <| ex_var ⟨rfl, rfl⟩ <| ex_callB R.n_len PyProof.Rows.Boot.«len» <| ea_cons <| ex_var ⟨rfl, rfl⟩ <| ea_nil <| r_lenS (ob h) fun z3 h => o_add <| ⟨_, rfl, ep_none <| r_slS (ob h) fun z4 h => r_cat (ob h) fun z5 h => (dN [] h)⟩⟩

def S_History_states (R : Prg K mg) : Spc := fun ds M P E => ∃ (a_self : (Str × List (Int × Str))), ds = [((historyD R) a_self)] ∧ (m_History_states a_self).Out (fun r => P ((lstD Dat.str) r) M) (fun x => E (exE R x) M)
theorem ok_History_states (R : Prg K mg) : FnD PR w K mg base 3 R.f_History_states R.d_History_states P_History_states (S_History_states R) := by
  refine fn_d false R.F_History_states sc_History_states (fun h => nomatch h) (fun ds M P E ⟨_, e, _⟩ => by rw [e]; rfl) fun cdv A outer s H E hr ds M Pd PE h => ?_
  obtain ⟨a_self, rfl, h⟩ := h
  have hu := hr.units
  refine WS.ends ?_
  refine ws_set <| ex_lstC <| ea_cons <| ex_prop R.L_File.cl R.V_File_content (ok_File_content R) (hr.mono (by decide)) R.b_File_content <| ex_fld <| ex_var ⟨rfl, rfl⟩ <| ⟨_, ⟨_, R.L_History.cl, R.A_History_start, .inl ⟨_, _, rfl, rfl, rfl⟩⟩, ⟨⟨"", .inl ⟨_, _, rfl, by decide⟩⟩, ap_all ⟨a_self.1, rfl, outU (ne_out (E' := fun _ => False) (ob h)) (fun z2 h => ea_nil ⟨ln, fun q1 _ => ?_⟩) (fun _ h => h.elim)⟩⟩⟩
  refine ws_forT <| ei_list <| ex_fld <| ex_var ⟨rfl, rfl⟩ <| ⟨_, ⟨_, R.L_History.cl, R.A_History_rows, .inl ⟨_, _, rfl, rfl, rfl⟩⟩, ⟨_, rfl, foldT (pairD Dat.int Dat.str) (xs := a_self.2) (fun (s3 : (List Str)) τ M' => ∃ d2 d3, [some ((historyD R) a_self), some (.raw (.ref q1)), d2, d3] = τ ∧ (q1, .lst (s3.map Dat.str)) :: M = M') (ob h) ⟨_, _, rfl, rfl⟩ (fun _ _ _ _ => trivial) ?g11 ?g12⟩⟩
  case g11 =>
    rintro x4 s3 _ _ N ⟨d2, d3, rfl, rfl⟩ h
    refine gx_tup <| gxs_cons <| gx_name  <| gxs_cons <| gx_name  <| gxs_nil <| ?_
    refine ws_expr <| r_app [] Dat.str (xs := s3) <| ex_var ⟨rfl, rfl⟩ ⟨rfl, rfl, ea_cons <| ex_callF (ok_written R) (hr.mono (by decide)) R.m_written R.F_written R.b_written <| ea_cons <| ex_ix <| ex_var ⟨rfl, rfl⟩ <| ex_neg <| ex_int <| ⟨_, rfl, r_ixC [] Dat.str (xs := s3) (ob h) fun z8 h => ea_cons <| ex_var ⟨rfl, rfl⟩ <| ea_cons <| ex_var ⟨rfl, rfl⟩ <| ea_nil <| ⟨z8, x4.1, x4.2, rfl, outU (ob h) (fun z9 h => ea_nil <| b_app [] Dat.str (xs := s3) (x := z9) (ob h) fun z7 h => ?_) (fun _ h => dX [_] h)⟩⟩⟩
    exact ws_nil ⟨z7, ⟨_, _, rfl, rfl⟩, h⟩
  case g12 =>
    rintro s3 _ _ ⟨d2, d3, rfl, rfl⟩ h
    exact ws_ret <| ex_frz <| ex_var ⟨rfl, rfl⟩ ⟨_, _, _, rfl, (List.perm_middle (l₁ := [])), (dN [] h)⟩

def S_History_len (R : Prg K mg) : Spc := fun ds M P E => ∃ (a_self : (Str × List (Int × Str))), ds = [((historyD R) a_self)] ∧ (m_History_len a_self).Out (fun r => P (.int r) M) (fun x => E (exE R x) M)
theorem ok_History_len (R : Prg K mg) : FnD PR w K mg base 1 R.f_History_len R.d_History_len P_History_len (S_History_len R) := by
  refine fn_d false R.F_History_len sc_History_len (fun h => nomatch h) (fun ds M P E ⟨_, e, _⟩ => by rw [e]; rfl) fun cdv A outer s H E hr ds M Pd PE h => ?_
  obtain ⟨a_self, rfl, h⟩ := h
  have hu := hr.units
  refine WS.ends ?_
  exact ws_ret <| ex_callB R.n_len PyProof.Rows.Boot.«len» <| ea_cons <| ex_fld <| ex_var ⟨rfl, rfl⟩ <| ⟨_, ⟨_, R.L_History.cl, R.A_History_rows, .inl ⟨_, _, rfl, rfl, rfl⟩⟩, ea_nil <| c_lenT (pairD Dat.int Dat.str) (xs := a_self.2) <| (dN [] h)⟩

def S_blocks_of (R : Prg K mg) : Spc := fun ds M P E => ∃ (a_cells : Str) (a_size : Int), ds = [(.str a_cells), (.int a_size)] ∧ (m_blocks_of a_cells a_size).Out (fun r => P ((lstD Dat.str) r) M) (fun x => E (exE R x) M)
theorem ok_blocks_of (R : Prg K mg) : FnD PR w K mg base 1 R.f_blocks_of R.d_blocks_of P_blocks_of (S_blocks_of R) := by
  refine fn_d false R.F_blocks_of sc_blocks_of (fun h => nomatch h) (fun ds M P E ⟨_, _, e, _⟩ => by rw [e]; rfl) fun cdv A outer s H E hr ds M Pd PE h => ?_
  obtain ⟨a_cells, a_size, rfl, h⟩ := h
  have hu := hr.units
  refine WS.ends ?_
  exact ws_ret <| ex_lcT [("at", 2)] <| ei_rng3B R.n_range <| ex_int <| ex_callB R.n_len PyProof.Rows.Boot.«len» <| ea_cons <| ex_var ⟨rfl, rfl⟩ <| ea_nil <| r_lenS (ob h) fun z1 h => ex_var ⟨rfl, rfl⟩ <| ⟨(0 : Int), z1, a_size, rfl, rfl, rfl, (gd (ob h)).1, have h := (gd (ob h)).2; compT Dat.int Dat.str (xs := (rangeC (0 : Int) a_size (Int.toNat ((z1 - (0 : Int) + a_size - 1) / a_size)))) (ob h) trivial (fun x2 _ h s H C cl fp => gc_name  <| fun s H C cl fp => ef_nil ⟨fun _ s H C cl fp => ex_sl <| ex_var ⟨rfl, rfl⟩ <| ep_some <| ex_var ⟨rfl, rfl⟩ <| ⟨_, rfl, ep_some <| ex_bin <| ex_var ⟨rfl, rfl⟩ <| ex_var ⟨rfl, rfl⟩ <| o_add <| ⟨_, rfl, r_slS (ob h) fun z3 h => ⟨rfl, z3, rfl, h⟩⟩⟩, fun z => nomatch z⟩) (fun l4 h => (dN [] h))⟩

def S_columns_of (R : Prg K mg) : Spc := fun ds M P E => ∃ (a_states : (List Str)) (a_size : Int), ds = [((lstD Dat.str) a_states), (.int a_size)] ∧ (m_columns_of a_states a_size).Out (fun r => P ((lstD (lstD Dat.str)) r) M) (fun x => E (exE R x) M)
theorem ok_columns_of (R : Prg K mg) : FnD PR w K mg base 2 R.f_columns_of R.d_columns_of P_columns_of (S_columns_of R) := by
  refine fn_d false R.F_columns_of sc_columns_of (fun h => nomatch h) (fun ds M P E ⟨_, _, e, _⟩ => by rw [e]; rfl) fun cdv A outer s H E hr ds M Pd PE h => ?_
  obtain ⟨a_states, a_size, rfl, h⟩ := h
  have hu := hr.units
  refine WS.ends ?_
  refine ws_set <| ex_lcT [("state", 3)] <| ei_list <| ex_var ⟨rfl, rfl⟩ <| ⟨_, rfl, compT Dat.str (lstD Dat.str) (xs := a_states) (ob h) trivial (fun x1 _ h s H C cl fp => gc_name  <| fun s H C cl fp => ef_nil ⟨fun _ s H C cl fp => ex_callF (ok_blocks_of R) (hr.mono (by decide)) R.m_blocks_of R.F_blocks_of R.b_blocks_of <| ea_cons <| ex_var ⟨rfl, rfl⟩ <| ea_cons <| ex_var ⟨rfl, rfl⟩ <| ea_nil <| ⟨x1, a_size, rfl, outU (ob h) (fun z2 h => ⟨rfl, z2, rfl, h⟩) (fun _ h => h)⟩, fun z => nomatch z⟩) (fun l3 h => ?_)⟩
  exact ws_ret <| ex_lcT [("at", 4)] <| ei_rng1 R.n_range <| ex_callB R.n_len PyProof.Rows.Boot.«len» <| ea_cons <| ex_ix <| ex_var ⟨rfl, rfl⟩ <| ex_int <| r_ix (lstD Dat.str) (xs := l3) (ob h) fun z4 h => ea_nil <| c_lenT Dat.str (xs := z4) <| ⟨(z4.length : Int), rfl, (gd (ob h)).1, have h := (gd (ob h)).2; compT Dat.int (lstD Dat.str) (xs := (rangeL 0 (Int.toNat (z4.length : Int)))) (ob h) trivial (fun x5 _ h s H C cl fp => gc_name  <| fun s H C cl fp => ef_nil ⟨fun _ s H C cl fp => ex_lcT [("row", 5)] <| ei_list <| ex_var ⟨rfl, rfl⟩ <| ⟨_, rfl, compT (lstD Dat.str) Dat.str (xs := l3) (ob h) trivial (fun x6 _ h s H C cl fp => gc_name  <| fun s H C cl fp => ef_nil ⟨fun _ s H C cl fp => ex_ix <| ex_var ⟨rfl, rfl⟩ <| ex_var ⟨rfl, rfl⟩ <| r_ix Dat.str (xs := x6) (ob h) fun z7 h => ⟨rfl, z7, rfl, h⟩, fun z => nomatch z⟩) (fun l8 h => ⟨rfl, l8, rfl, h⟩)⟩, fun z => nomatch z⟩) (fun l9 h => (dN [] h))⟩

def S_columns_along (R : Prg K mg) : Spc := fun ds M P E => ∃ (a_states : (List Str)) (a_size : Int) (a_down : Bool), ds = [((lstD Dat.str) a_states), (.int a_size), (.bl a_down)] ∧ (m_columns_along a_states a_size a_down).Out (fun r => P ((lstD (lstD Dat.str)) r) M) (fun x => E (exE R x) M)
theorem ok_columns_along (R : Prg K mg) : FnD PR w K mg base 3 R.f_columns_along R.d_columns_along P_columns_along (S_columns_along R) := by
  refine fn_d false R.F_columns_along sc_columns_along (fun h => nomatch h) (fun ds M P E ⟨_, _, _, e, _⟩ => by rw [e]; rfl) fun cdv A outer s H E hr ds M Pd PE h => ?_
  obtain ⟨a_states, a_size, a_down, rfl, h⟩ := h
  have hu := hr.units
  refine WS.ends ?_
  exact ws_ret <| ex_callF (ok_columns_of R) (hr.mono (by decide)) R.m_columns_of R.F_columns_of R.b_columns_of <| ea_cons <| exJQ (lstD Dat.str) (ob h) (fun _ h => ex_if <| et_val <| ex_var ⟨rfl, rfl⟩ <| ⟨_, rfl, cif h (fun h => ex_revLT Dat.str <| ex_var ⟨rfl, rfl⟩ <| ⟨a_states, (.inl rfl), ⟨rfl, a_states.reverse, rfl, h⟩⟩) (fun h => ex_var ⟨rfl, rfl⟩ <| ⟨rfl, a_states, rfl, h⟩)⟩) fun z1 h => ea_cons <| ex_var ⟨rfl, rfl⟩ <| ea_nil <| ⟨z1, a_size, rfl, outU (ob h) (fun z2 h => (dN [] h)) (fun _ h => dX [] h)⟩

def S_readings (R : Prg K mg) : Spc := fun ds M P E => ∃ (a_column : (List Str)) (a_t : Int), ds = [((lstD Dat.str) a_column), (.int a_t)] ∧ (m_readings a_column a_t).Out (fun r => P ((lstD (pairD Dat.str Dat.int)) r) M) (fun x => E (exE R x) M)
theorem ok_readings (R : Prg K mg) : FnD PR w K mg base 1 R.f_readings R.d_readings P_readings (S_readings R) := by
  refine fn_d false R.F_readings sc_readings (fun h => nomatch h) (fun ds M P E ⟨_, _, e, _⟩ => by rw [e]; rfl) fun cdv A outer s H E hr ds M Pd PE h => ?_
  obtain ⟨a_column, a_t, rfl, h⟩ := h
  have hu := hr.units
  refine WS.ends ?_
  refine ws_set <| ex_dicC fun q1 => ?_
  refine ws_forT <| ei_rng2 R.n_range <| ex_var ⟨rfl, rfl⟩ <| ex_callB R.n_len PyProof.Rows.Boot.«len» <| ea_cons <| ex_var ⟨rfl, rfl⟩ <| ea_nil <| c_lenT Dat.str (xs := a_column) <| ⟨a_t, (a_column.length : Int), rfl, rfl, (gd (ob h)).1, have h := (gd (ob h)).2; foldT Dat.int (xs := (rangeL a_t (Int.toNat ((a_column.length : Int) - a_t)))) (fun (s2 : (List (Str × Int))) τ M' => ∃ d3 d4, [some ((lstD Dat.str) a_column), some (.int a_t), some (.raw (.ref q1)), d3, d4] = τ ∧ (q1, .dic (dicD Dat.int s2)) :: M = M') (ob h) ⟨_, _, rfl, rfl⟩ (fun _ _ _ _ => trivial) ?g14 ?g15⟩
  case g14 =>
    rintro x3 s2 _ _ N ⟨d3, d4, rfl, rfl⟩ h
    refine gx_name  <| ?_
    refine ws_ifQ (fun Q τ M' => ∃ s6 : (List (Str × Int)), ∃ d4, [some ((lstD Dat.str) a_column), some (.int a_t), some (.raw (.ref q1)), some (.int x3), d4] = τ ∧ (q1, .dic (dicD Dat.int s6)) :: M = M' ∧ Q s6) (ob h) (fun _ h => et_cmp <| ex_ix <| ex_var ⟨rfl, rfl⟩ <| ex_var ⟨rfl, rfl⟩ <| r_ix Dat.str (xs := a_column) (ob h) fun z7 h => ex_var ⟨rfl, rfl⟩ <| o_notInDic Dat.int (ds := s2) hu List.mem_cons_self <| ⟨_, rfl, cif h (fun h => ?g11) (fun h => ?g12)⟩) ?k13
    case g11 =>
      refine ws_dput Dat.int hu <| ex_var ⟨rfl, rfl⟩ <| ex_var ⟨rfl, rfl⟩ <| ex_ix <| ex_var ⟨rfl, rfl⟩ <| ex_var ⟨rfl, rfl⟩ <| r_ix Dat.str (xs := a_column) (ob h) fun z8 h => ⟨_, s2, z8, x3, [], _, _, _, rfl, rfl, rfl, rfl, (ob h), fun z9 h => ?_⟩
      exact ws_nil ⟨z9, _, rfl, rfl, h⟩
    case g12 =>
      exact ws_nil ⟨s2, _, rfl, rfl, h⟩
    case k13 =>
      rintro _ _ ⟨s6, d4, rfl, rfl, h⟩
      exact ws_nil ⟨s6, ⟨_, _, rfl, rfl⟩, h⟩
  case g15 =>
    rintro s2 _ _ ⟨d3, d4, rfl, rfl⟩ h
    exact ws_ret <| ex_callB R.n_sorted PyProof.Rows.Boot.«sorted» <| ea_cons <| ex_lcT [("text", 4), ("at", 3)] <| ei_items Dat.int <| ex_var ⟨rfl, rfl⟩ ⟨_, s2, [], _, rfl, rfl, compT (pairD Dat.str Dat.int) (pairD Dat.str Dat.int) (xs := s2) (ob h) trivial (fun x16 _ h s H C cl fp => gc_tup <| gcs_cons <| gc_name  <| gcs_cons <| gc_name  <| gcs_nil <| fun s H C cl fp => ef_nil ⟨fun _ s H C cl fp => ex_tup <| ea_cons <| ex_var ⟨rfl, rfl⟩ <| ea_cons <| ex_var ⟨rfl, rfl⟩ <| ea_nil ⟨ln, ⟨rfl, (x16.1, x16.2), rfl, h⟩⟩, fun z => nomatch z⟩) (fun l17 h => ea_nil <| c_sortD (py2 pyS pyI) (pys2 pysS pysI) (xs := l17) (.inl rfl) hu (ob h) fun z18 h => (dN [] h))⟩

def S_counts_of (R : Prg K mg) : Spc := fun ds M P E => ∃ (a_columns : (List (List Str))) (a_places : Int), ds = [((lstD (lstD Dat.str)) a_columns), (.int a_places)] ∧ (m_counts_of a_columns a_places).Out (fun r => P ((lstD (lstD Dat.int)) r) M) (fun x => E (exE R x) M)
theorem ok_counts_of (R : Prg K mg) : FnD PR w K mg base 2 R.f_counts_of R.d_counts_of P_counts_of (S_counts_of R) := by
  refine fn_d false R.F_counts_of sc_counts_of (fun h => nomatch h) (fun ds M P E ⟨_, _, e, _⟩ => by rw [e]; rfl) fun cdv A outer s H E hr ds M Pd PE h => ?_
  obtain ⟨a_columns, a_places, rfl, h⟩ := h
  have hu := hr.units
  refine WS.ends ?_
  refine ws_set <| ex_lstC <| ea_cons <| ex_lcT [("t", 4)] <| ei_rng1 R.n_range <| ex_var ⟨rfl, rfl⟩ <| ⟨a_places, rfl, (gd (ob h)).1, have h := (gd (ob h)).2; compT Dat.int Dat.int (xs := (rangeL 0 (Int.toNat a_places))) (ob h) trivial (fun x2 _ h s H C cl fp => gc_name  <| fun s H C cl fp => ef_nil ⟨fun _ s H C cl fp => ex_int <| ⟨rfl, (1 : Int), rfl, h⟩, fun z => nomatch z⟩) (fun l3 h => ea_nil ⟨ln, fun q1 _ => ?_⟩)⟩
  refine ws_forT <| ei_list <| ex_revLT (lstD Dat.str) <| ex_var ⟨rfl, rfl⟩ <| ⟨a_columns, (.inl rfl), ⟨_, rfl, foldT (lstD Dat.str) (xs := a_columns.reverse) (fun (s4 : (List (List Int))) τ M' => ∃ d3 d4 d5 d6, [some ((lstD (lstD Dat.str)) a_columns), some (.int a_places), some (.raw (.ref q1)), d3, d4, d5, d6] = τ ∧ (q1, .lst (s4.map (lstD Dat.int))) :: M = M') (ob h) ⟨_, _, _, _, rfl, rfl⟩ (fun _ _ _ _ => trivial) ?g17 ?g18⟩⟩
  case g17 =>
    rintro x5 s4 _ _ N ⟨d3, d4, d5, d6, rfl, rfl⟩ h
    refine gx_name  <| ?_
    refine ws_expr <| r_app [] (lstD Dat.int) (xs := s4) <| ex_var ⟨rfl, rfl⟩ ⟨rfl, rfl, ea_cons <| ex_lcT [("t", 4)] <| ei_rng1 R.n_range <| ex_var ⟨rfl, rfl⟩ <| ⟨a_places, rfl, (gd (ob h)).1, have h := (gd (ob h)).2; compT Dat.int Dat.int (xs := (rangeL 0 (Int.toNat a_places))) (ob h) trivial (fun x9 _ h s H C cl fp => gc_name  <| fun s H C cl fp => ef_nil ⟨fun _ s H C cl fp => ex_callB R.n_sum PyProof.Rows.Boot.«sum» <| ea_cons <| ex_lcT [("text", 5), ("at", 6)] <| ei_list <| ex_callF (ok_readings R) (hr.mono (by decide)) R.m_readings R.F_readings R.b_readings <| ea_cons <| ex_var ⟨rfl, rfl⟩ <| ea_cons <| ex_var ⟨rfl, rfl⟩ <| ea_nil <| ⟨x5, x9, rfl, outU (ob h) (fun z10 h => ⟨_, rfl, compT (pairD Dat.str Dat.int) Dat.int (xs := z10) (ob h) trivial (fun x11 _ h s H C cl fp => gc_tup <| gcs_cons <| gc_name  <| gcs_cons <| gc_name  <| gcs_nil <| fun s H C cl fp => ef_nil ⟨fun _ s H C cl fp => ex_ix <| ex_ix <| ex_var ⟨rfl, rfl⟩ <| ex_neg <| ex_int <| ⟨_, rfl, r_ixC [] (lstD Dat.int) (xs := s4) (ob h) fun z12 h => ex_var ⟨rfl, rfl⟩ <| r_ix Dat.int (xs := z12) (ob h) fun z13 h => ⟨rfl, z13, rfl, h⟩⟩, fun z => nomatch z⟩) (fun l14 h => ea_nil <| c_sumT (ns := l14) <| ⟨rfl, (l14.sum), rfl, h⟩)⟩) (fun _ h => h)⟩, fun z => nomatch z⟩) (fun l15 h => ea_nil <| b_app [] (lstD Dat.int) (xs := s4) (x := l15) (ob h) fun z8 h => ?_)⟩⟩
    exact ws_nil ⟨z8, ⟨_, _, _, _, rfl, rfl⟩, h⟩
  case g18 =>
    rintro s4 _ _ ⟨d3, d4, d5, d6, rfl, rfl⟩ h
    refine ws_frz 2 rfl (List.perm_middle (l₁ := [])) ?_
    exact ws_ret <| ex_revLT (lstD Dat.int) <| ex_var ⟨rfl, rfl⟩ <| ⟨s4, (.inl rfl), (dN [] h)⟩

def S_content_of (R : Prg K mg) : Spc := fun ds M P E => ∃ (a_columns : (List (List Str))) (a_counts : (List (List Int))) (a_number : Int), ds = [((lstD (lstD Dat.str)) a_columns), ((lstD (lstD Dat.int)) a_counts), (.int a_number)] ∧ (m_content_of a_columns a_counts a_number).Out (fun r => P (.str r) M) (fun x => E (exE R x) M)
theorem ok_content_of (R : Prg K mg) : FnD PR w K mg base 2 R.f_content_of R.d_content_of P_content_of (S_content_of R) := by
  refine fn_d false R.F_content_of sc_content_of (fun h => nomatch h) (fun ds M P E ⟨_, _, _, e, _⟩ => by rw [e]; rfl) fun cdv A outer s H E hr ds M Pd PE h => ?_
  obtain ⟨a_columns, a_counts, a_number, rfl, h⟩ := h
  have hu := hr.units
  refine WS.ends ?_
  refine ws_set <| ex_str <| ?_
  refine ws_set <| ex_int <| ?_
  refine ws_forT <| ei_enumT (lstD Dat.str) R.n_enumerate <| ex_var ⟨rfl, rfl⟩ <| ⟨a_columns, rfl, forT (pairD Dat.int (lstD Dat.str)) (xs := (enumL a_columns)) (fun (s1 : (Int × Str × Int)) τ M' => ∃ d5 d6 d7 d8 d9, [some ((lstD (lstD Dat.str)) a_columns), some ((lstD (lstD Dat.int)) a_counts), some (.int s1.1), some (.str s1.2.1), some (.int s1.2.2), d5, d6, d7, d8, d9] = τ ∧ M = M') (ob h) ⟨_, _, _, _, _, rfl, rfl⟩ (fun _ _ _ _ => trivial) ?g21 ?g22⟩
  case g21 =>
    rintro x2 s1 _ _ N ⟨d5, d6, d7, d8, d9, rfl, rfl⟩ h hrt3
    refine gx_tup <| gxs_cons <| gx_name  <| gxs_cons <| gx_name  <| gxs_nil <| ?_
    refine ws_forT <| ei_list <| ex_callF (ok_readings R) (hr.mono (by decide)) R.m_readings R.F_readings R.b_readings <| ea_cons <| ex_var ⟨rfl, rfl⟩ <| ea_cons <| ex_var ⟨rfl, rfl⟩ <| ea_nil <| ⟨x2.2, s1.2.2, rfl, outU (ob h) (fun z5 h => ⟨_, rfl, forT (pairD Dat.str Dat.int) (xs := z5) (fun (s6 : (Int × Str × Int)) τ M' => ∃ d7 d8 d9, [some ((lstD (lstD Dat.str)) a_columns), some ((lstD (lstD Dat.int)) a_counts), some (.int s6.1), some (.str s6.2.1), some (.int s6.2.2), some (.int x2.1), some ((lstD Dat.str) x2.2), d7, d8, d9] = τ ∧ M = M') (ob h) ⟨_, _, _, rfl, rfl⟩ (fun _ _ _ _ => trivial) ?g19 ?g20⟩) (fun _ h => dX [] h)⟩
    case g19 =>
      rintro x7 s6 _ _ N ⟨d7, d8, d9, rfl, rfl⟩ h hrt8
      refine gx_tup <| gxs_cons <| gx_name  <| gxs_cons <| gx_name  <| gxs_nil <| ?_
      refine ws_set <| ex_ix <| ex_ix <| ex_var ⟨rfl, rfl⟩ <| ex_bin <| ex_var ⟨rfl, rfl⟩ <| ex_int <| o_add <| r_ix (lstD Dat.int) (xs := a_counts) (ob h) fun z10 h => ex_var ⟨rfl, rfl⟩ <| r_ix Dat.int (xs := z10) (ob h) fun z11 h => ?_
      refine ws_if <| et_cmp <| ex_var ⟨rfl, rfl⟩ <| ex_var ⟨rfl, rfl⟩ <| o_lt <| ⟨_, rfl, cif h (fun h => ?g15) (fun h => ?g17)⟩
      case g15 =>
        refine ws_set <| ex_bin <| ex_var ⟨rfl, rfl⟩ <| ex_var ⟨rfl, rfl⟩ <| r_cat (ob h) fun z12 h => ?_
        refine ws_set <| ex_var ⟨rfl, rfl⟩ <| ?_
        exact ws_break ⟨(s6.1, z12, x7.2), ⟨_, _, _, rfl, rfl⟩, h⟩
      case g17 =>
        refine ws_nil ?_
        refine ws_augSub rfl <| ex_var ⟨rfl, rfl⟩ <| ⟨_, rfl, ?_⟩
        exact ws_nil ⟨((s6.1 - z11), s6.2.1, s6.2.2), ⟨_, _, _, rfl, rfl⟩, h⟩
    case g20 =>
      rintro s6 _ _ ⟨d7, d8, d9, rfl, rfl⟩ h
      replace h := finO h
      exact ws_nil ⟨(s6.1, s6.2.1, s6.2.2), ⟨_, _, _, _, _, rfl, rfl⟩, h⟩
  case g22 =>
    rintro s1 _ _ ⟨d5, d6, d7, d8, d9, rfl, rfl⟩ h
    replace h := finO h
    exact ws_ret <| ex_var ⟨rfl, rfl⟩ <| (dN [] h)

def S_torn_within (R : Prg K mg) : Spc := fun ds M P E => ∃ (a_states : (List Str)) (a_size : Int) (a_first : Int) (a_last : Int) (a_down : Bool), ds = [((lstD Dat.str) a_states), (.int a_size), (.int a_first), (.int a_last), (.bl a_down)] ∧ (m_torn_within a_states a_size a_first a_last a_down).Out (fun r => P ((optD Dat.str) r) M) (fun x => E (exE R x) M)
theorem ok_torn_within (R : Prg K mg) : FnD PR w K mg base 4 R.f_torn_within R.d_torn_within P_torn_within (S_torn_within R) := by
  refine fn_d false R.F_torn_within sc_torn_within (fun h => nomatch h) (fun ds M P E ⟨_, _, _, _, _, e, _⟩ => by rw [e]; rfl) fun cdv A outer s H E hr ds M Pd PE h => ?_
  obtain ⟨a_states, a_size, a_first, a_last, a_down, rfl, h⟩ := h
  have hu := hr.units
  refine WS.ends ?_
  refine ws_set <| ex_callF (ok_columns_along R) (hr.mono (by decide)) R.m_columns_along R.F_columns_along R.b_columns_along <| ea_cons <| ex_sl <| ex_var ⟨rfl, rfl⟩ <| ep_some <| ex_var ⟨rfl, rfl⟩ <| ⟨_, rfl, ep_some <| ex_bin <| ex_var ⟨rfl, rfl⟩ <| ex_int <| o_add <| ⟨_, rfl, l_lstT Dat.str (xs := a_states) <| ea_cons <| ex_var ⟨rfl, rfl⟩ <| ea_cons <| ex_var ⟨rfl, rfl⟩ <| ea_nil <| ⟨(cutD a_states (some a_first) (some (a_last + (1 : Int)))), a_size, a_down, rfl, outU (ob h) (fun z1 h => ?_) (fun _ h => dX [] h)⟩⟩⟩
  refine ws_set <| ex_callF (ok_counts_of R) (hr.mono (by decide)) R.m_counts_of R.F_counts_of R.b_counts_of <| ea_cons <| ex_var ⟨rfl, rfl⟩ <| ea_cons <| ex_bin <| ex_bin <| ex_var ⟨rfl, rfl⟩ <| ex_int <| o_add <| ex_var ⟨rfl, rfl⟩ <| o_sub <| ea_nil <| ⟨z1, ((a_last + (1 : Int)) - a_first), rfl, outU (ob h) (fun z2 h => ?_) (fun _ h => dX [] h)⟩
  refine ws_forT <| ei_rng1 R.n_range <| ex_callB R.n_min PyProof.Rows.Boot.«min» <| ea_cons <| ex_ix <| ex_ix <| ex_var ⟨rfl, rfl⟩ <| ex_int <| r_ix (lstD Dat.int) (xs := z2) (ob h) fun z3 h => ex_int <| r_ix Dat.int (xs := z3) (ob h) fun z4 h => ea_cons <| ex_bin <| ex_callB R.n_len PyProof.Rows.Boot.«len» <| ea_cons <| ex_var ⟨rfl, rfl⟩ <| ea_nil <| c_lenT Dat.str (xs := a_states) <| ex_int <| o_add <| ea_nil <| c_minT <| ⟨(min z4 ((a_states.length : Int) + (1 : Int))), rfl, (gd (ob h)).1, have h := (gd (ob h)).2; forT Dat.int (xs := (rangeL 0 (Int.toNat (min z4 ((a_states.length : Int) + (1 : Int)))))) (fun (s5 : Unit) τ M' => ∃ d7 d8, [some ((lstD Dat.str) a_states), some (.int a_size), some (.int a_first), some (.int a_last), some (.bl a_down), some ((lstD (lstD Dat.str)) z1), some ((lstD (lstD Dat.int)) z2), d7, d8] = τ ∧ M = M') (ob h) ⟨_, _, rfl, rfl⟩ (fun _ _ _ _ => trivial) ?g14 ?g15⟩
  case g14 =>
    rintro x6 s5 _ _ N ⟨d7, d8, rfl, rfl⟩ h hrt7
    refine gx_name  <| ?_
    refine ws_set <| ex_callF (ok_content_of R) (hr.mono (by decide)) R.m_content_of R.F_content_of R.b_content_of <| ea_cons <| ex_var ⟨rfl, rfl⟩ <| ea_cons <| ex_var ⟨rfl, rfl⟩ <| ea_cons <| ex_var ⟨rfl, rfl⟩ <| ea_nil <| ⟨z1, z2, x6, rfl, outU (ob h) (fun z9 h => ?_) (fun _ h => dX [] h)⟩
    refine ws_if <| et_cmp <| ex_var ⟨rfl, rfl⟩ <| ex_var ⟨rfl, rfl⟩ <| r_notInL pyS (a := z9) (xs := a_states) (un65 hr) (.inl rfl) (ob h) fun z10 h => ⟨_, rfl, cif h (fun h => ?g11) (fun h => ?g12)⟩
    case g11 =>
      exact ws_ret <| ex_var ⟨rfl, rfl⟩ <| (dN [] (hrt7 _ h))
    case g12 =>
      refine ws_nil ?_
      exact ws_nil ⟨(), ⟨_, _, rfl, rfl⟩, h⟩
  case g15 =>
    rintro s5 _ _ ⟨d7, d8, rfl, rfl⟩ h
    replace h := finO h
    exact ws_ret <| ex_non <| (dN [] h)

def S_parted (R : Prg K mg) : Spc := fun ds M P E => ∃ (a_history : (Str × List (Int × Str))) (a_size : Int) (a_down : Bool), ds = [((historyD R) a_history), (.int a_size), (.bl a_down)] ∧ (m_parted a_history a_size a_down).Out (fun r => P ((pairD (optD (lstD Dat.int)) (lstD (pairD Dat.int Dat.int))) r) M) (fun x => E (exE R x) M)
theorem ok_parted (R : Prg K mg) : FnD PR w K mg base 5 R.f_parted R.d_parted P_parted (S_parted R) := by
  refine fn_d false R.F_parted sc_parted (fun h => nomatch h) (fun ds M P E ⟨_, _, _, e, _⟩ => by rw [e]; rfl) fun cdv A outer s H E hr ds M Pd PE h => ?_
  obtain ⟨a_history, a_size, a_down, rfl, h⟩ := h
  have hu := hr.units
  refine WS.ends ?_
  refine ws_set <| ex_mv0 <| ex_var ⟨rfl, rfl⟩ <| mvD0 ⟨_, ⟨_, _, _, _, R.L_History.cl, R.M_History_states, ok_History_states R, hr.mono (by decide), R.b_History_states⟩, fun M => .inl ⟨_, _, rfl, by decide⟩⟩ ⟨a_history, rfl, outU (ob h) (fun z1 h => ?_) (fun _ h => dX [] h)⟩
  refine ws_forT <| ei_rng1 R.n_range <| ex_callB R.n_len PyProof.Rows.Boot.«len» <| ea_cons <| ex_var ⟨rfl, rfl⟩ <| ea_nil <| c_lenOwn (ok_History_len R) (hr.mono (by decide)) R.M_History_len.1 R.M_History_len.2 R.b_History_len (fun _ => .inl ⟨_, _, rfl, by decide⟩) ⟨a_history, rfl, lenO (ob h) fun z2 h => ⟨z2, rfl, (gd (ob h)).1, have h := (gd (ob h)).2; forT Dat.int (xs := (rangeL 0 (Int.toNat z2))) (fun (s3 : Unit) τ M' => ∃ d4 d5 d6 d7, [some ((historyD R) a_history), some (.int a_size), some (.bl a_down), some ((lstD Dat.str) z1), d4, d5, d6, d7] = τ ∧ M = M') (ob h) ⟨_, _, _, _, rfl, rfl⟩ (fun _ _ _ _ => trivial) ?g10 ?g11⟩⟩
  case g10 =>
    rintro x4 s3 _ _ N ⟨d4, d5, d6, d7, rfl, rfl⟩ h hrt5
    refine gx_name  <| ?_
    refine ws_if <| et_cmp <| ex_callF (ok_torn_within R) (hr.mono (by decide)) R.m_torn_within R.F_torn_within R.b_torn_within <| ea_cons <| ex_var ⟨rfl, rfl⟩ <| ea_cons <| ex_var ⟨rfl, rfl⟩ <| ea_cons <| ex_var ⟨rfl, rfl⟩ <| ea_cons <| ex_bin <| ex_var ⟨rfl, rfl⟩ <| ex_int <| o_add <| ea_cons <| ex_var ⟨rfl, rfl⟩ <| ea_nil <| ⟨z1, a_size, x4, (x4 + (1 : Int)), a_down, rfl, outU (ob h) (fun z7 h => ex_non <| o_notNT Dat.str (fun _ => ⟨rfl, fun _ z => nomatch z⟩) <| ⟨_, rfl, cif h (fun h => ?g8) (fun h => ?g9)⟩) (fun _ h => dX [] h)⟩
    case g8 =>
      exact ws_ret <| ex_tup <| ea_cons <| ex_non <| ea_cons <| ex_lst <| ea_cons <| ex_tup <| ea_cons <| ex_var ⟨rfl, rfl⟩ <| ea_cons <| ex_bin <| ex_var ⟨rfl, rfl⟩ <| ex_int <| o_add <| ea_nil ⟨ln, ea_nil ⟨ln, ea_nil ⟨ln, (dN [] (hrt5 _ h))⟩⟩⟩
    case g9 =>
      refine ws_nil ?_
      exact ws_nil ⟨(), ⟨_, _, _, _, rfl, rfl⟩, h⟩
  case g11 =>
    rintro s3 _ _ ⟨d4, d5, d6, d7, rfl, rfl⟩ h
    replace h := finO h
    refine ws_set <| ex_lstC <| ea_nil ⟨ln, fun q12 _ => ?_⟩
    refine ws_set <| ex_lstC <| ea_nil ⟨ln, fun q13 _ => ?_⟩
    refine ws_set <| ex_int <| ?_
    refine ws_forT <| ei_rng2 R.n_range <| ex_int <| ex_callB R.n_len PyProof.Rows.Boot.«len» <| ea_cons <| ex_var ⟨rfl, rfl⟩ <| ea_nil <| c_lenT Dat.str (xs := z1) <| ⟨(1 : Int), (z1.length : Int), rfl, rfl, (gd (ob h)).1, have h := (gd (ob h)).2; foldT Dat.int (xs := (rangeL (1 : Int) (Int.toNat ((z1.length : Int) - (1 : Int))))) (fun (s14 : (Int × (List (Int × Int)) × (List Int))) τ M' => ∃ d7, [some ((historyD R) a_history), some (.int a_size), some (.bl a_down), some ((lstD Dat.str) z1), some (.int s14.1), some (.raw (.ref q12)), some (.raw (.ref q13)), d7] = τ ∧ (q13, .lst (s14.2.1.map (pairD Dat.int Dat.int))) :: (q12, .lst (s14.2.2.map Dat.int)) :: M = M') (ob h) ⟨_, rfl, rfl⟩ (fun _ _ _ _ => trivial) ?g28 ?g29⟩
    case g28 =>
      rintro x15 s14 _ _ N ⟨d7, rfl, rfl⟩ h
      refine gx_name  <| ?_
      refine ws_ifQ (fun Q τ M' => ∃ s18 : (Int × (List (Int × Int)) × (List Int)), [some ((historyD R) a_history), some (.int a_size), some (.bl a_down), some ((lstD Dat.str) z1), some (.int s18.1), some (.raw (.ref q12)), some (.raw (.ref q13)), some (.int x15)] = τ ∧ (q13, .lst (s18.2.1.map (pairD Dat.int Dat.int))) :: (q12, .lst (s18.2.2.map Dat.int)) :: M = M' ∧ Q s18) (ob h) (fun _ h => et_cmp <| ex_callF (ok_torn_within R) (hr.mono (by decide)) R.m_torn_within R.F_torn_within R.b_torn_within <| ea_cons <| ex_var ⟨rfl, rfl⟩ <| ea_cons <| ex_var ⟨rfl, rfl⟩ <| ea_cons <| ex_var ⟨rfl, rfl⟩ <| ea_cons <| ex_var ⟨rfl, rfl⟩ <| ea_cons <| ex_var ⟨rfl, rfl⟩ <| ea_nil <| ⟨z1, a_size, s14.1, x15, a_down, rfl, outU (ob h) (fun z19 h => ex_non <| o_notNT Dat.str (fun _ => ⟨rfl, fun _ z => nomatch z⟩) <| ⟨_, rfl, cif h (fun h => ?g25) (fun h => ?g26)⟩) (fun _ h => dX [_, _] h)⟩) ?k27
      case g25 =>
        refine ws_expr <| r_app [] (pairD Dat.int Dat.int) (xs := s14.2.1) <| ex_var ⟨rfl, rfl⟩ ⟨rfl, rfl, ea_cons <| ex_tup <| ea_cons <| ex_var ⟨rfl, rfl⟩ <| ea_cons <| ex_var ⟨rfl, rfl⟩ <| ea_nil ⟨ln, ea_nil <| b_app [] (pairD Dat.int Dat.int) (xs := s14.2.1) (x := (s14.1, x15)) (ob h) fun z20 h => ?_⟩⟩
        refine ws_set <| ex_bin <| ex_var ⟨rfl, rfl⟩ <| ex_int <| o_sub <| ?_
        refine ws_expr <| r_app [_] Dat.int (xs := s14.2.2) <| ex_var ⟨rfl, rfl⟩ ⟨rfl, rfl, ea_cons <| ex_var ⟨rfl, rfl⟩ <| ea_nil <| b_app [_] Dat.int (xs := s14.2.2) (x := (x15 - (1 : Int))) (ob h) fun z21 h => ?_⟩
        exact ws_nil ⟨((x15 - (1 : Int)), z20, z21), rfl, rfl, h⟩
      case g26 =>
        exact ws_nil ⟨(s14.1, s14.2.1, s14.2.2), rfl, rfl, h⟩
      case k27 =>
        rintro _ _ ⟨s18, rfl, rfl, h⟩
        exact ws_nil ⟨(s18.1, s18.2.1, s18.2.2), ⟨_, rfl, rfl⟩, h⟩
    case g29 =>
      rintro s14 _ _ ⟨d7, rfl, rfl⟩ h
      refine ws_frz 6 rfl (List.perm_middle (l₁ := [])) ?_
      refine ws_frz 5 rfl (List.perm_middle (l₁ := [])) ?_
      exact ws_ret <| ex_tup <| ea_cons <| ex_var ⟨rfl, rfl⟩ <| ea_cons <| ex_var ⟨rfl, rfl⟩ <| ea_nil ⟨ln, (dN [] h)⟩

def S_holds (R : Prg K mg) : Spc := fun ds M P E => ∃ (a_history : (Str × List (Int × Str))) (a_size : Int) (a_down : Bool), ds = [((historyD R) a_history), (.int a_size), (.bl a_down)] ∧ (m_holds a_history a_size a_down).Out (fun r => P ((optD (lstD Dat.int)) r) M) (fun x => E (exE R x) M)
theorem ok_holds (R : Prg K mg) : FnD PR w K mg base 6 R.f_holds R.d_holds P_holds (S_holds R) := by
  refine fn_d false R.F_holds sc_holds (fun h => nomatch h) (fun ds M P E ⟨_, _, _, e, _⟩ => by rw [e]; rfl) fun cdv A outer s H E hr ds M Pd PE h => ?_
  obtain ⟨a_history, a_size, a_down, rfl, h⟩ := h
  have hu := hr.units
  refine WS.ends ?_
  refine ws_expr <| ex_callF (ok_check_asked R) (hr.mono (by decide)) R.m_check_asked R.F_check_asked R.b_check_asked <| ea_cons <| ex_var ⟨rfl, rfl⟩ <| ea_cons <| ex_var ⟨rfl, rfl⟩ <| ea_nil <| ⟨a_history, a_size, rfl, outU (ob h) (fun z1 h => ?_) (fun _ h => dX [] h)⟩
  exact ws_ret <| ex_ix <| ex_callF (ok_parted R) (hr.mono (by decide)) R.m_parted R.F_parted R.b_parted <| ea_cons <| ex_var ⟨rfl, rfl⟩ <| ea_cons <| ex_var ⟨rfl, rfl⟩ <| ea_cons <| ex_var ⟨rfl, rfl⟩ <| ea_nil <| ⟨a_history, a_size, a_down, rfl, outU (ob h) (fun z2 h => ex_int <| i_tup rfl <| (dN [] h)) (fun _ h => dX [] h)⟩

def S_check_within (R : Prg K mg) : Spc := fun ds M P E => ∃ (a_value : Int) (a_first : Int) (a_last : Int), ds = [(.int a_value), (.int a_first), (.int a_last)] ∧ (m_check_within a_value a_first a_last).Out (fun r => P .non M) (fun x => E (exE R x) M)
theorem ok_check_within (R : Prg K mg) : FnD PR w K mg base 2 R.f_check_within R.d_check_within P_check_within (S_check_within R) := by
  refine fn_d false R.F_check_within sc_check_within (fun h => nomatch h) (fun ds M P E ⟨_, _, _, e, _⟩ => by rw [e]; rfl) fun cdv A outer s H E hr ds M Pd PE h => ?_
  obtain ⟨a_value, a_first, a_last, rfl, h⟩ := h
  have hu := hr.units
  refine WS.ends ?_
  refine ws_if <| et_w <| ew_or <| et_not <| et_val <| ex_callF (ok_is_whole R) (hr.mono (by decide)) R.m_is_whole R.F_is_whole R.b_is_whole <| ea_cons <| ex_var ⟨rfl, rfl⟩ <| ea_nil <| ⟨a_value, rfl, outU (ob h) (fun z1 h => ⟨_, rfl, cifN h (fun h => ew_or1 <| et_not <| etJQ (ob h) (fun _ h => et_chain <| ex_var ⟨rfl, rfl⟩ <| tch_link <| ex_var ⟨rfl, rfl⟩ <| o_le <| ⟨_, rfl, cif h (fun h => tch_last <| ex_var ⟨rfl, rfl⟩ <| o_le <| ⟨_, rfl, rfl, h⟩) (fun h => ⟨rfl, h⟩)⟩) fun t3 h => cifN h (fun h => ?g5) (fun h => ?g4)) (fun h => ⟨fun _ => ?g2, fun z => nomatch z⟩)⟩) (fun _ h => dX [] h)⟩
  case g2 =>
    exact ws_raise rfl R.S_InvalidNumber R.mc_InvalidNumber R.n_super hr <| ex_asA <| ex_var ⟨rfl, rfl⟩ <| ⟨anyD (clR R) (Any.int a_value), (by first | rfl | (simp only [anyD, anyDL, anyDL_map, List.map_map]; done) | (simp only [anyD, anyDL, anyDL_map, List.map_map]; rfl) | (simp only [anyD, anyDL, anyDL_map, List.map_map, stepA_comp, stepA_D]; rfl) | (simp only [anyD, anyDL, anyDL_map, List.map_map, stepA_comp, stepA_D]; done)), (dX [] h)⟩
  case g4 =>
    exact ws_raise rfl R.S_InvalidNumber R.mc_InvalidNumber R.n_super hr <| ex_asA <| ex_var ⟨rfl, rfl⟩ <| ⟨anyD (clR R) (Any.int a_value), (by first | rfl | (simp only [anyD, anyDL, anyDL_map, List.map_map]; done) | (simp only [anyD, anyDL, anyDL_map, List.map_map]; rfl) | (simp only [anyD, anyDL, anyDL_map, List.map_map, stepA_comp, stepA_D]; rfl) | (simp only [anyD, anyDL, anyDL_map, List.map_map, stepA_comp, stepA_D]; done)), (dX [] h)⟩
  case g5 =>
    refine ws_nil ?_
    exact ws_nil (dN [] h)

def S_torn_copy__v2 (R : Prg K mg) : Spc := fun ds M P E => ∃ (a_history : (Str × List (Int × Str))) (a_size : Int) (a_first : Int) (a_last : Int) (a_down : Bool), ds = [((historyD R) a_history), (.int a_size), (.int a_first), (.int a_last), (.bl a_down)] ∧ (m_torn_copy__v2 a_history a_size a_first a_last a_down).Out (fun r => P ((optD Dat.str) r) M) (fun x => E (exE R x) M)
theorem ok_torn_copy__v2 (R : Prg K mg) : FnD PR w K mg base 5 R.f_torn_copy R.d_torn_copy P_torn_copy (S_torn_copy__v2 R) := by
  refine fn_dV false R.F_torn_copy sc_torn_copy (fun h => nomatch h) (fun ds M P E ⟨_, _, _, _, _, e, _⟩ => by rw [e]; rfl) fun cdv A outer s H E hr ds M Pd PE h => ?_
  obtain ⟨a_history, a_size, a_first, a_last, a_down, rfl, h⟩ := h
  have hu := hr.units
  refine WS.ends ?_
  refine ws_expr <| ex_callF (ok_check_asked R) (hr.mono (by decide)) R.m_check_asked R.F_check_asked R.b_check_asked <| ea_cons <| ex_var ⟨rfl, rfl⟩ <| ea_cons <| ex_var ⟨rfl, rfl⟩ <| ea_nil <| ⟨a_history, a_size, rfl, outU (ob h) (fun z1 h => ?_) (fun _ h => dX [] h)⟩
  refine ws_expr <| ex_callF (ok_check_within R) (hr.mono (by decide)) R.m_check_within R.F_check_within R.b_check_within <| ea_cons <| ex_var ⟨rfl, rfl⟩ <| ea_cons <| ex_int <| ea_cons <| ex_callB R.n_len PyProof.Rows.Boot.«len» <| ea_cons <| ex_var ⟨rfl, rfl⟩ <| ea_nil <| c_lenOwn (ok_History_len R) (hr.mono (by decide)) R.M_History_len.1 R.M_History_len.2 R.b_History_len (fun _ => .inl ⟨_, _, rfl, by decide⟩) ⟨a_history, rfl, lenO (ob h) fun z2 h => ea_nil <| ⟨a_first, (0 : Int), z2, rfl, outU (ob h) (fun z3 h => ?_) (fun _ h => dX [] h)⟩⟩
  refine ws_if <| et_cmp <| ex_var ⟨rfl, rfl⟩ <| ex_non <| o_notNA rfl <| ⟨_, rfl, fun _ => ?_, (fun z => nomatch z)⟩
  refine ws_expr <| ex_callF (ok_check_within R) (hr.mono (by decide)) R.m_check_within R.F_check_within R.b_check_within <| ea_cons <| ex_var ⟨rfl, rfl⟩ <| ea_cons <| ex_var ⟨rfl, rfl⟩ <| ea_cons <| ex_callB R.n_len PyProof.Rows.Boot.«len» <| ea_cons <| ex_var ⟨rfl, rfl⟩ <| ea_nil <| c_lenOwn (ok_History_len R) (hr.mono (by decide)) R.M_History_len.1 R.M_History_len.2 R.b_History_len (fun _ => .inl ⟨_, _, rfl, by decide⟩) ⟨a_history, rfl, lenO (ob h) fun z4 h => ea_nil <| ⟨a_last, a_first, z4, rfl, outU (ob h) (fun z5 h => ?_) (fun _ h => dX [] h)⟩⟩
  refine ws_nil ?_
  exact ws_ret <| ex_callF (ok_torn_within R) (hr.mono (by decide)) R.m_torn_within R.F_torn_within R.b_torn_within <| ea_cons <| ex_mv0 <| ex_var ⟨rfl, rfl⟩ <| mvD0 ⟨_, ⟨_, _, _, _, R.L_History.cl, R.M_History_states, ok_History_states R, hr.mono (by decide), R.b_History_states⟩, fun M => .inl ⟨_, _, rfl, by decide⟩⟩ ⟨a_history, rfl, outU (ob h) (fun z6 h => ea_cons <| ex_var ⟨rfl, rfl⟩ <| ea_cons <| ex_var ⟨rfl, rfl⟩ <| ea_cons <| exJQ Dat.int (ob h) (fun _ h => ex_if <| et_cmp <| ex_var ⟨rfl, rfl⟩ <| ex_non <| o_isNA rfl <| ⟨_, rfl, (fun z => nomatch z), fun _ => ex_var ⟨rfl, rfl⟩ <| ⟨rfl, a_last, rfl, h⟩⟩) fun z7 h => ea_cons <| ex_var ⟨rfl, rfl⟩ <| ea_nil <| ⟨z6, a_size, a_first, z7, a_down, rfl, outU (ob h) (fun z8 h => (dN [] h)) (fun _ h => dX [] h)⟩) (fun _ h => dX [] h)⟩

def S_windows (R : Prg K mg) : Spc := fun ds M P E => ∃ (a_history : (Str × List (Int × Str))) (a_size : Int) (a_down : Bool), ds = [((historyD R) a_history), (.int a_size), (.bl a_down)] ∧ (m_windows a_history a_size a_down).Out (fun r => P ((lstD (pairD Dat.int Dat.int)) r) M) (fun x => E (exE R x) M)
theorem ok_windows (R : Prg K mg) : FnD PR w K mg base 6 R.f_windows R.d_windows P_windows (S_windows R) := by
  refine fn_d false R.F_windows sc_windows (fun h => nomatch h) (fun ds M P E ⟨_, _, _, e, _⟩ => by rw [e]; rfl) fun cdv A outer s H E hr ds M Pd PE h => ?_
  obtain ⟨a_history, a_size, a_down, rfl, h⟩ := h
  have hu := hr.units
  refine WS.ends ?_
  refine ws_expr <| ex_callF (ok_check_asked R) (hr.mono (by decide)) R.m_check_asked R.F_check_asked R.b_check_asked <| ea_cons <| ex_var ⟨rfl, rfl⟩ <| ea_cons <| ex_var ⟨rfl, rfl⟩ <| ea_nil <| ⟨a_history, a_size, rfl, outU (ob h) (fun z1 h => ?_) (fun _ h => dX [] h)⟩
  exact ws_ret <| ex_ix <| ex_callF (ok_parted R) (hr.mono (by decide)) R.m_parted R.F_parted R.b_parted <| ea_cons <| ex_var ⟨rfl, rfl⟩ <| ea_cons <| ex_var ⟨rfl, rfl⟩ <| ea_cons <| ex_var ⟨rfl, rfl⟩ <| ea_nil <| ⟨a_history, a_size, a_down, rfl, outU (ob h) (fun z2 h => ex_int <| i_tup rfl <| (dN [] h)) (fun _ h => dX [] h)⟩

def S_law_right (R : Prg K mg) : Spc := fun ds M P E => ∃ (a_history : (Str × List (Int × Str))) (a_states : (List Str)) (a_size : Int) (a_back : Bool), ds = [((historyD R) a_history), ((lstD Dat.str) a_states), (.int a_size), (.bl a_back)] ∧ (m_law_right a_history a_states a_size a_back).Out (fun r => P (.bl r) M) (fun x => E (exE R x) M)
theorem ok_law_right (R : Prg K mg) : FnD PR w K mg base 7 R.f_law_right R.d_law_right P_law_right (S_law_right R) := by
  refine fn_d false R.F_law_right sc_law_right (fun h => nomatch h) (fun ds M P E ⟨_, _, _, _, e, _⟩ => by rw [e]; rfl) fun cdv A outer s H E hr ds M Pd PE h => ?_
  obtain ⟨a_history, a_states, a_size, a_back, rfl, h⟩ := h
  have hu := hr.units
  refine WS.ends ?_
  refine ws_setLcT [("t", 5)] <| ei_rng1 R.n_range <| ex_bin <| ex_callB R.n_len PyProof.Rows.Boot.«len» <| ea_cons <| ex_var ⟨rfl, rfl⟩ <| ea_nil <| c_lenT Dat.str (xs := a_states) <| ex_int <| o_sub <| ⟨((a_states.length : Int) - (1 : Int)), rfl, (gd (ob h)).1, have h := (gd (ob h)).2; compT Dat.int Dat.int (xs := (rangeL 0 (Int.toNat ((a_states.length : Int) - (1 : Int))))) (ob h) trivial (fun x1 _ h s H C cl fp => gc_name  <| fun s H C cl fp => ef_one <| et_val <| ex_callF (ok_law_seen R) (hr.mono (by decide)) R.m_law_seen R.F_law_seen R.b_law_seen <| ea_cons <| ex_var ⟨rfl, rfl⟩ <| ea_cons <| ex_var ⟨rfl, rfl⟩ <| ea_cons <| ex_var ⟨rfl, rfl⟩ <| ea_cons <| ex_var ⟨rfl, rfl⟩ <| ea_nil <| ⟨a_states, a_size, a_back, x1, rfl, outU (ob h) (fun z2 h => ⟨_, rfl, cif h (fun h => fun s H C cl fp => ex_var ⟨rfl, rfl⟩ <| ⟨rfl, x1, rfl, h⟩) (fun h => ⟨rfl, h⟩)⟩) (fun _ h => h)⟩) (fun l3 h => ?_)⟩
  refine ws_if <| et_cmp <| ex_cmp <| ex_callK (ok_holds R) (hr.mono (by decide)) R.m_holds R.F_holds.kp R.kb_holds_2_down <| ea_cons <| ex_var ⟨rfl, rfl⟩ <| ea_cons <| ex_var ⟨rfl, rfl⟩ <| ea_nil ⟨rfl, ek_cons <| ex_var ⟨rfl, rfl⟩ <| ek_nil ⟨rfl, ⟨a_history, a_size, a_back, rfl, outU (ob h) (fun z4 h => ex_non <| o_isNT (lstD Dat.int) (fun _ => ⟨rfl, fun _ z => nomatch z⟩) <| ex_cmp <| ex_var ⟨rfl, rfl⟩ <| ex_lst <| ea_nil ⟨ln, r_neNilT Dat.int hu <| o_neB <| ⟨_, rfl, cif h (fun h => ?g5) (fun h => ?g23)⟩⟩) (fun _ h => dX [] h)⟩⟩⟩
  case g5 =>
    exact ws_ret <| ex_bl <| (dN [] h)
  case g23 =>
    refine ws_nil ?_
    refine ws_forT <| ei_rng1 R.n_range <| ex_bin <| ex_callB R.n_len PyProof.Rows.Boot.«len» <| ea_cons <| ex_var ⟨rfl, rfl⟩ <| ea_nil <| c_lenT Dat.str (xs := a_states) <| ex_int <| o_sub <| ⟨((a_states.length : Int) - (1 : Int)), rfl, (gd (ob h)).1, have h := (gd (ob h)).2; forT Dat.int (xs := (rangeL 0 (Int.toNat ((a_states.length : Int) - (1 : Int))))) (fun (s6 : Unit) τ M' => ∃ d5 d6, [some ((historyD R) a_history), some ((lstD Dat.str) a_states), some (.int a_size), some (.bl a_back), some ((lstD Dat.int) l3), d5, d6] = τ ∧ M = M') (ob h) ⟨_, _, rfl, rfl⟩ (fun _ _ _ _ => trivial) ?g15 ?g16⟩
    case g15 =>
      rintro x7 s6 _ _ N ⟨d5, d6, rfl, rfl⟩ h hrt8
      refine gx_name  <| ?_
      refine ws_set <| ex_callK (ok_torn_copy__v2 R) (hr.mono (by decide)) R.m_torn_copy R.F_torn_copy.kp R.kb_torn_copy_4_down <| ea_cons <| ex_var ⟨rfl, rfl⟩ <| ea_cons <| ex_var ⟨rfl, rfl⟩ <| ea_cons <| ex_var ⟨rfl, rfl⟩ <| ea_cons <| ex_bin <| ex_var ⟨rfl, rfl⟩ <| ex_int <| o_add <| ea_nil ⟨rfl, ek_cons <| ex_var ⟨rfl, rfl⟩ <| ek_nil ⟨rfl, ⟨a_history, a_size, x7, (x7 + (1 : Int)), a_back, rfl, outU (ob h) (fun z10 h => ?_) (fun _ h => dX [] h)⟩⟩⟩
      refine ws_if <| et_cmp <| ex_cmp <| ex_var ⟨rfl, rfl⟩ <| ex_non <| o_notNT Dat.str (fun _ => ⟨rfl, fun _ z => nomatch z⟩) <| ex_cmp <| ex_var ⟨rfl, rfl⟩ <| ex_var ⟨rfl, rfl⟩ <| r_inL pyI (a := x7) (xs := l3) (un65 hr) (.inl rfl) (ob h) fun z11 h => o_neB <| ⟨_, rfl, cif h (fun h => ?g12) (fun h => ?g13)⟩
      case g12 =>
        exact ws_ret <| ex_bl <| (dN [] (hrt8 _ h))
      case g13 =>
        refine ws_nil ?_
        exact ws_nil ⟨(), ⟨_, _, rfl, rfl⟩, h⟩
    case g16 =>
      rintro s6 _ _ ⟨d5, d6, rfl, rfl⟩ h
      replace h := finO h
      refine ws_if <| et_cmp <| ex_var ⟨rfl, rfl⟩ <| ex_lst <| ea_nil ⟨ln, r_eqNilT Dat.int hu <| ⟨_, rfl, cif h (fun h => ?g17) (fun h => ?g22)⟩⟩
      case g17 =>
        exact ws_ret <| ex_bl <| (dN [] h)
      case g22 =>
        refine ws_nil ?_
        exact ws_ret <| ex_cmp <| ex_callK (ok_windows R) (hr.mono (by decide)) R.m_windows R.F_windows.kp R.kb_windows_2_down <| ea_cons <| ex_var ⟨rfl, rfl⟩ <| ea_cons <| ex_var ⟨rfl, rfl⟩ <| ea_nil ⟨rfl, ek_cons <| ex_var ⟨rfl, rfl⟩ <| ek_nil ⟨rfl, ⟨a_history, a_size, a_back, rfl, outU (ob h) (fun z18 h => ex_lcT [("t", 5)] <| ei_list <| ex_var ⟨rfl, rfl⟩ <| ⟨_, rfl, compT Dat.int (lstD (pairD Dat.int Dat.int)) (xs := l3) (ob h) trivial (fun x19 _ h s H C cl fp => gc_name  <| fun s H C cl fp => ef_nil ⟨fun _ s H C cl fp => ex_lst <| ea_cons <| ex_tup <| ea_cons <| ex_var ⟨rfl, rfl⟩ <| ea_cons <| ex_bin <| ex_var ⟨rfl, rfl⟩ <| ex_int <| o_add <| ea_nil ⟨ln, ea_nil ⟨ln, ⟨rfl, ([(x19, (x19 + (1 : Int)))] : List (Int × Int)), rfl, h⟩⟩⟩, fun z => nomatch z⟩) (fun l20 h => r_inL (pyL (py2 pyI pyI)) (a := z18) (xs := l20) (un65 hr) (.inl rfl) (ob h) fun z21 h => (dN [] h))⟩) (fun _ h => dX [] h)⟩⟩⟩

def S_torn_copy (R : Prg K mg) : Spc := fun ds M P E => ∃ (a_history : (Str × List (Int × Str))) (a_size : Int) (a_first : Int) (a_last : Unit) (a_down : Bool), ds = [((historyD R) a_history), (.int a_size), (.int a_first), .non, (.bl a_down)] ∧ (m_torn_copy a_history a_size a_first a_last a_down).Out (fun r => P ((optD Dat.str) r) M) (fun x => E (exE R x) M)
theorem ok_torn_copy (R : Prg K mg) : FnD PR w K mg base 5 R.f_torn_copy R.d_torn_copy P_torn_copy (S_torn_copy R) := by
  refine fn_dV false R.F_torn_copy sc_torn_copy (fun h => nomatch h) (fun ds M P E ⟨_, _, _, _, _, e, _⟩ => by rw [e]; rfl) fun cdv A outer s H E hr ds M Pd PE h => ?_
  obtain ⟨a_history, a_size, a_first, a_last, a_down, rfl, h⟩ := h
  have hu := hr.units
  refine WS.ends ?_
  refine ws_expr <| ex_callF (ok_check_asked R) (hr.mono (by decide)) R.m_check_asked R.F_check_asked R.b_check_asked <| ea_cons <| ex_var ⟨rfl, rfl⟩ <| ea_cons <| ex_var ⟨rfl, rfl⟩ <| ea_nil <| ⟨a_history, a_size, rfl, outU (ob h) (fun z1 h => ?_) (fun _ h => dX [] h)⟩
  refine ws_expr <| ex_callF (ok_check_within R) (hr.mono (by decide)) R.m_check_within R.F_check_within R.b_check_within <| ea_cons <| ex_var ⟨rfl, rfl⟩ <| ea_cons <| ex_int <| ea_cons <| ex_callB R.n_len PyProof.Rows.Boot.«len» <| ea_cons <| ex_var ⟨rfl, rfl⟩ <| ea_nil <| c_lenOwn (ok_History_len R) (hr.mono (by decide)) R.M_History_len.1 R.M_History_len.2 R.b_History_len (fun _ => .inl ⟨_, _, rfl, by decide⟩) ⟨a_history, rfl, lenO (ob h) fun z2 h => ea_nil <| ⟨a_first, (0 : Int), z2, rfl, outU (ob h) (fun z3 h => ?_) (fun _ h => dX [] h)⟩⟩
  refine ws_if <| et_cmp <| ex_var ⟨rfl, rfl⟩ <| ex_non <| o_notNN <| ⟨_, rfl, (fun z => nomatch z), fun _ => ?_⟩
  refine ws_nil ?_
  exact ws_ret <| ex_callF (ok_torn_within R) (hr.mono (by decide)) R.m_torn_within R.F_torn_within R.b_torn_within <| ea_cons <| ex_mv0 <| ex_var ⟨rfl, rfl⟩ <| mvD0 ⟨_, ⟨_, _, _, _, R.L_History.cl, R.M_History_states, ok_History_states R, hr.mono (by decide), R.b_History_states⟩, fun M => .inl ⟨_, _, rfl, by decide⟩⟩ ⟨a_history, rfl, outU (ob h) (fun z4 h => ea_cons <| ex_var ⟨rfl, rfl⟩ <| ea_cons <| ex_var ⟨rfl, rfl⟩ <| ea_cons <| exJQ Dat.int (ob h) (fun _ h => ex_if <| et_cmp <| ex_var ⟨rfl, rfl⟩ <| ex_non <| o_isNN <| ⟨_, rfl, fun _ => ex_callB R.n_len PyProof.Rows.Boot.«len» <| ea_cons <| ex_var ⟨rfl, rfl⟩ <| ea_nil <| c_lenOwn (ok_History_len R) (hr.mono (by decide)) R.M_History_len.1 R.M_History_len.2 R.b_History_len (fun _ => .inl ⟨_, _, rfl, by decide⟩) ⟨a_history, rfl, lenO (ob h) fun z5 h => ⟨rfl, z5, rfl, h⟩⟩, (fun z => nomatch z)⟩) fun z6 h => ea_cons <| ex_var ⟨rfl, rfl⟩ <| ea_nil <| ⟨z4, a_size, a_first, z6, a_down, rfl, outU (ob h) (fun z7 h => (dN [] h)) (fun _ h => dX [] h)⟩) (fun _ h => dX [] h)⟩
end
end Kh

set_option Elab.async false
set_option linter.all false
set_option maxRecDepth 100000
set_option maxHeartbeats 4000000
set_option exponentiation.threshold 20000
namespace Kh
open PySem PySem.Spec L2
/-! ### words for what the defs compute -/
section
variable {α β γ σ ρ : Type}
theorem bind_pure : ∀ {m : Res α}, (m.bind fun z => .ok z) = m
  | .ok _ => rfl
  | .err _ => rfl
  | .bad => rfl
  | .all f => congrArg Res.all (funext fun q => bind_pure (m := f q))
theorem bind_eq {m : Res α} {a : α} {k : α → Res β} (h : m = .ok a) : m.bind k = k a := by rw [h]; rfl
theorem foldR_append {f : σ → α → Res σ} : ∀ {xs ys : List α} {s : σ}, foldR f (xs ++ ys) s = (foldR f xs s).bind (foldR f ys)
  | [], ys, s => rfl
  | x :: xs, ys, s => by
    simp only [List.cons_append, foldR_cons, bind_bind]
    congr 1; funext s'; exact foldR_append
theorem foldR_inv {f : σ → α → Res σ} (I : σ → Prop) : ∀ {xs : List α} {s : σ}, I s → (∀ s x, I s → x ∈ xs → ∃ s', f s x = .ok s' ∧ I s') → ∃ s', foldR f xs s = .ok s' ∧ I s'
  | [], s, h, _ => ⟨s, rfl, h⟩
  | x :: xs, s, h, hf => by
    obtain ⟨s1, e1, h1⟩ := hf s x h List.mem_cons_self
    rw [foldR_cons, e1]
    exact foldR_inv I h1 fun s y hs hy => hf s y hs (List.mem_cons_of_mem _ hy)
/-- a loop whose turns give what g gives -/
theorem foldR_foldl {f : σ → α → Res σ} (g : σ → α → σ) (I : σ → Prop) : ∀ {xs : List α} {s : σ}, I s → (∀ s x, I s → x ∈ xs → f s x = .ok (g s x) ∧ I (g s x)) → foldR f xs s = .ok (xs.foldl g s)
  | [], s, h, _ => rfl
  | x :: xs, s, h, hf => by
    obtain ⟨e1, h1⟩ := hf s x h List.mem_cons_self
    rw [foldR_cons, e1, bind_ok, List.foldl_cons]
    exact foldR_foldl g I h1 fun s y hs hy => hf s y hs (List.mem_cons_of_mem _ hy)
theorem rangeL_succ {lo : Int} {n : Nat} : rangeL lo (n + 1) = rangeL lo n ++ [lo + (n : Int)] := by simp [rangeL, List.range_succ]
theorem rangeL_length {lo : Int} {n : Nat} : (rangeL lo n).length = n := by simp [rangeL]
theorem rangeL_zero {lo : Int} : rangeL lo 0 = [] := rfl
theorem rangeL_cons {lo : Int} {n : Nat} : rangeL lo (n + 1) = lo :: rangeL (lo + 1) n := by
  simp only [rangeL, List.range_succ_eq_map, List.map_cons, List.map_map]
  congr 1
  · simp
  · apply List.map_congr_left; intro x _; simp [Function.comp]; omega
theorem mem_rangeL {lo i : Int} {n : Nat} : i ∈ rangeL lo n ↔ lo ≤ i ∧ i < lo + n := by
  simp only [rangeL, List.mem_map, List.mem_range]
  constructor
  · rintro ⟨k, hk, rfl⟩; omega
  · rintro ⟨h1, h2⟩; exact ⟨(i - lo).toNat, by omega, by omega⟩
theorem rangeL_get {lo : Int} {n i : Nat} (h : i < n) : (rangeL lo n)[i]? = some (lo + (i : Int)) := by simp [rangeL, h]
/-- a loop over a range: F i is the state ahead of turn i -/
theorem foldR_range {f : σ → Int → Res σ} {lo : Int} (F : Nat → σ) : ∀ {n : Nat}, (∀ i, i < n → f (F i) (lo + (i : Int)) = .ok (F (i + 1))) → foldR f (rangeL lo n) (F 0) = .ok (F n)
  | 0, _ => rfl
  | n + 1, h => by
    rw [rangeL_succ, foldR_append, foldR_range F fun i hi => h i (by omega), bind_ok, foldR_cons, h n (by omega)]
    rfl
theorem foldR_rangeI {f : σ → Int → Res σ} {lo : Int} (I : Nat → σ → Prop) {s0 : σ} (h0 : I 0 s0) : ∀ {n : Nat}, (∀ i s, i < n → I i s → ∃ s', f s (lo + (i : Int)) = .ok s' ∧ I (i + 1) s') → ∃ s', foldR f (rangeL lo n) s0 = .ok s' ∧ I n s'
  | 0, _ => ⟨s0, rfl, h0⟩
  | n + 1, h => by
    obtain ⟨s1, e1, h1⟩ := foldR_rangeI I h0 (n := n) fun i s hi => h i s (by omega)
    obtain ⟨s2, e2, h2⟩ := h n s1 (by omega) h1
    refine ⟨s2, ?_, h2⟩
    rw [rangeL_succ, foldR_append, e1, bind_ok, foldR_cons, e2]
    rfl
/-- a loop that is not left early -/
theorem forR_inv {f : σ → α → Res (Ctl σ ρ)} (I : σ → Prop) : ∀ {xs : List α} {s : σ}, I s → (∀ s x, I s → x ∈ xs → ∃ s', f s x = .ok (.nx s') ∧ I s') → ∃ s', forR f xs s = .ok (.nx s') ∧ I s'
  | [], s, h, _ => ⟨s, rfl, h⟩
  | x :: xs, s, h, hf => by
    obtain ⟨s1, e1, h1⟩ := hf s x h List.mem_cons_self
    rw [forR_cons, e1]
    exact forR_inv I h1 fun s y hs hy => hf s y hs (List.mem_cons_of_mem _ hy)
theorem forR_append {f : σ → α → Res (Ctl σ ρ)} : ∀ {xs ys : List α} {s s' : σ}, forR f xs s = .ok (.nx s') → (∀ s x s', x ∈ xs → f s x ≠ .ok (.bk s')) → forR f (xs ++ ys) s = forR f ys s'
  | [], ys, s, s', h, _ => by cases h; rfl
  | x :: xs, ys, s, s', h, hb => by
    simp only [List.cons_append, forR_cons] at h ⊢
    cases e : f s x with
    | ok c =>
      rw [e] at h
      cases c with
      | nx s1 => exact forR_append h fun s x s' hx => hb s x s' (List.mem_cons_of_mem _ hx)
      | bk s1 => exact absurd e (hb s x s1 List.mem_cons_self)
      | rt r => cases h
    | err x => rw [e] at h; cases h
    | bad => rw [e] at h; cases h
    | all g => rw [e] at h; cases h
theorem compL_map {f : α → Res (Option β)} (g : α → β) : ∀ {xs : List α}, (∀ x ∈ xs, f x = .ok (some (g x))) → compL f xs = .ok (xs.map g)
  | [], _ => rfl
  | x :: xs, h => by
    show (f x).bind _ = _
    rw [h x List.mem_cons_self, bind_ok, compL_map g fun y hy => h y (List.mem_cons_of_mem _ hy)]
    rfl
theorem compR_map {f : α → Res (Option β)} (g : α → β) {xs : List α} (hl : xs.length ≤ sizeLine) (h : ∀ x ∈ xs, f x = .ok (some (g x))) : compR f xs = .ok (xs.map g) := by
  unfold compR; rw [if_pos hl, compL_map g h]; rfl
theorem compL_fm {f : α → Res (Option β)} (g : α → Option β) : ∀ {xs : List α}, (∀ x ∈ xs, f x = .ok (g x)) → compL f xs = .ok (xs.filterMap g)
  | [], _ => rfl
  | x :: xs, h => by
    show (f x).bind _ = _
    rw [h x List.mem_cons_self, bind_ok, compL_fm g fun y hy => h y (List.mem_cons_of_mem _ hy), List.filterMap_cons]
    cases g x <;> rfl
theorem compR_fm {f : α → Res (Option β)} (g : α → Option β) {xs : List α} (hl : xs.length ≤ sizeLine) (h : ∀ x ∈ xs, f x = .ok (g x)) : compR f xs = .ok (xs.filterMap g) := by
  unfold compR; rw [if_pos hl, compL_fm g h]; rfl
/-- with a test -/
theorem compR_filter {f : α → Res (Option α)} (p : α → Bool) {xs : List α} (hl : xs.length ≤ sizeLine) (h : ∀ x ∈ xs, f x = .ok (if p x then some x else none)) : compR f xs = .ok (xs.filter p) := by
  rw [compR_fm (fun x => if p x then some x else none) hl h]
  congr 1
  clear h hl
  induction xs with
  | nil => rfl
  | cons x xs ih => rw [List.filterMap_cons, List.filter_cons]; cases p x <;> simp [ih]
theorem compR_none {f : α → Res (Option β)} {xs : List α} (hl : xs.length ≤ sizeLine) (h : ∀ x ∈ xs, f x = .ok none) : compR f xs = .ok [] := by
  rw [compR_fm (fun _ => none) hl h]
  congr 1
  clear h hl
  induction xs with
  | nil => rfl
  | cons x xs ih => simp
theorem compR_nil {f : α → Res (Option β)} : compR f [] = .ok [] := by unfold compR; rw [if_pos (by simp)]; rfl
theorem peq_ok [DecidableEq α] {ok : α → Bool} {a b : α} (h1 : ok a = true) (h2 : ok b = true) : peq ok a b = .ok (decide (a = b)) := guard_ok ⟨h1, h2⟩
end
theorem sz : sizeLine = 16777216 := sizeLine_eq
theorem lg {i : Int} {n : Nat} (h : i.natAbs < 2 ^ n) (h0 : 0 < n) : i.natAbs.log2 < n := PySem.Flt.log2_lt_of h0 h
theorem pdiv_ok {i j : Int} (h : 0 < j) (hb : j.natAbs < 2 ^ 8000) : pdiv i j = .ok (i / j) := guard_ok ⟨h, Nat.lt_of_lt_of_le (lg hb (by decide)) (by decide)⟩
theorem pmod_ok {i j : Int} (h : 0 < j) : pmod i j = .ok (i % j) := guard_ok h
theorem pmul_ok {i j : Int} (hi : i.natAbs < 2 ^ 8000) (hj : j.natAbs < 2 ^ 8000) : pmul i j = .ok (i * j) := guard_ok (by have := lg hi (by decide); have := lg hj (by decide); omega)
/-- a number far below the greatest -/
def Sm (n : Nat) (i : Int) : Prop := i.natAbs < 2 ^ n
theorem Sm.up {n m : Nat} {i : Int} (h : Sm n i) (hm : n ≤ m) : Sm m i := Nat.lt_of_lt_of_le h (Nat.pow_le_pow_right (by decide) hm)
theorem Sm.mul {n m : Nat} {i j : Int} (h : Sm n i) (g : Sm m j) : Sm (n + m) (i * j) := by
  unfold Sm at *; rw [Int.natAbs_mul, Nat.pow_add]; exact Nat.mul_lt_mul'' h g
theorem Sm.add {n : Nat} {i j : Int} (h : Sm n i) (g : Sm n j) : Sm (n + 1) (i + j) := by
  unfold Sm at *; rw [Nat.pow_succ]; omega
theorem Sm.sub {n : Nat} {i j : Int} (h : Sm n i) (g : Sm n j) : Sm (n + 1) (i - j) := by
  unfold Sm at *; rw [Nat.pow_succ]; omega
theorem Sm.of {n : Nat} {i : Int} (h0 : 0 ≤ i) {b : Int} (hb : i ≤ b) (hn : Sm n b) : Sm n i := by unfold Sm at *; omega
theorem pix_nat {α : Type} {xs : List α} {i : Nat} {x : α} (h : xs[i]? = some x) : pix xs (i : Int) = .ok x := by unfold pix; rw [atI_nat h]
theorem small62_of {i : Int} (h0 : 0 ≤ i) (h : i < 1000000000) : small62 i := by unfold small62; omega
/-! the numbers that a script's number draws -/
def Pur (p : List Int) : Prop := ∃ a b c : Int, p = [a, b, c]
def Res.isT : Res Bool → Bool
  | .ok true => true
  | _ => false
theorem of_isT {m : Res Bool} (h : m.isT = true) : m = .ok true := by
  cases m with
  | ok b => cases b <;> first | rfl | cases h
  | err x => cases h
  | bad => cases h
  | all g => cases h
/-! ### what is computed is so: m.Ok P -/
def Res.Ok {α : Type} : Res α → (α → Prop) → Prop
  | .ok a, P => P a
  | _, _ => False
theorem ok_out {α : Type} {m : Res α} {P : α → Prop} {E : Er → Prop} (h : m.Ok P) : m.Out P E := by
  cases m with
  | ok a => exact h
  | _ => exact h.elim
section
variable {α β γ σ ρ : Type}
theorem ok_of {m : Res α} {a : α} {P : α → Prop} (e : m = .ok a) (h : P a) : m.Ok P := by rw [e]; exact h
theorem ok_eq {m : Res α} {a : α} (h : m.Ok fun b => b = a) : m = .ok a := by
  cases m with
  | ok b => rw [show b = a from h]
  | err x => exact h.elim
  | bad => exact h.elim
  | all g => exact h.elim
theorem Res.Ok.get {m : Res α} {P : α → Prop} (h : m.Ok P) : ∃ a, m = .ok a ∧ P a := by
  cases m with
  | ok b => exact ⟨b, rfl, h⟩
  | err x => exact h.elim
  | bad => exact h.elim
  | all g => exact h.elim
theorem Res.Ok.imp {m : Res α} {P Q : α → Prop} (h : m.Ok P) (i : ∀ a, P a → Q a) : m.Ok Q := by
  obtain ⟨a, e, q⟩ := h.get; rw [e]; exact i a q
theorem bi {m : Res α} {k : α → Res β} {Q : α → Prop} {P : β → Prop} (h : m.Ok Q) (hk : ∀ a, Q a → (k a).Ok P) : (m.bind k).Ok P := by
  obtain ⟨a, e, q⟩ := h.get; rw [e]; exact hk a q
theorem be {m : Res α} {k : α → Res β} {a : α} {P : β → Prop} (e : m = .ok a) (hk : (k a).Ok P) : (m.bind k).Ok P := by rw [e]; exact hk
/-- a test that is told -/
theorem cT {c : Bool} {a b : Res α} {P : α → Prop} (e : c = true) (h : a.Ok P) : (cond c a b).Ok P := by rw [e]; exact h
theorem cF {c : Bool} {a b : Res α} {P : α → Prop} (e : c = false) (h : b.Ok P) : (cond c a b).Ok P := by rw [e]; exact h
theorem cB {c : Bool} {a b : Res α} {P : α → Prop} (h1 : c = true → a.Ok P) (h2 : c = false → b.Ok P) : (cond c a b).Ok P := by
  cases c with
  | true => exact h1 rfl
  | false => exact h2 rfl
/-- decide p -/
theorem cD {p : Prop} [Decidable p] {a b : Res α} {P : α → Prop} (h1 : p → a.Ok P) (h2 : ¬ p → b.Ok P) : (cond (decide p) a b).Ok P := cB (fun e => h1 (of_decide_eq_true e)) fun e => h2 (of_decide_eq_false e)
theorem cDT {p : Prop} [Decidable p] {a b : Res α} {P : α → Prop} (hp : p) (h : a.Ok P) : (cond (decide p) a b).Ok P := cT (decide_eq_true hp) h
theorem cDF {p : Prop} [Decidable p] {a b : Res α} {P : α → Prop} (hp : ¬ p) (h : b.Ok P) : (cond (decide p) a b).Ok P := cF (decide_eq_false hp) h
theorem cNT {p : Prop} [Decidable p] {a b : Res α} {P : α → Prop} (hp : ¬ p) (h : a.Ok P) : (cond (!decide p) a b).Ok P := cT (by rw [decide_eq_false hp]; rfl) h
theorem cNF {p : Prop} [Decidable p] {a b : Res α} {P : α → Prop} (hp : p) (h : b.Ok P) : (cond (!decide p) a b).Ok P := cF (by rw [decide_eq_true hp]; rfl) h
theorem bg {c : Prop} [Decidable c] {x : α} {k : α → Res β} {P : β → Prop} (hc : c) (h : (k x).Ok P) : ((guard c x).bind k).Ok P := be (guard_ok hc) h
theorem bq [DecidableEq α] {ok : α → Bool} {a b : α} {k : Bool → Res β} {P : β → Prop} (h1 : ok a = true) (h2 : ok b = true) (h : (k (decide (a = b))).Ok P) : ((peq ok a b).bind k).Ok P := be (peq_ok h1 h2) h
theorem forO {f : σ → α → Res (Ctl σ ρ)} {k : σ → Res β} {r : ρ → Res β} {xs : List α} {s : σ} {P : β → Prop} (I : σ → Prop) (h0 : I s) (step : ∀ s x, I s → x ∈ xs → (f s x).Ok fun c => ∃ s', c = .nx s' ∧ I s') (fin : ∀ s, I s → (k s).Ok P) : ((forR f xs s).bind (Ctl.fin k r)).Ok P := by
  obtain ⟨s', e, h⟩ := forR_inv I h0 fun s x hs hx => by
    obtain ⟨c, e, s', rfl, h⟩ := (step s x hs hx).get
    exact ⟨s', e, h⟩
  rw [e]; exact fin s' h
theorem foldO {f : σ → α → Res σ} {k : σ → Res β} {xs : List α} {s : σ} {P : β → Prop} (I : σ → Prop) (h0 : I s) (step : ∀ s x, I s → x ∈ xs → (f s x).Ok I) (fin : ∀ s, I s → (k s).Ok P) : ((foldR f xs s).bind k).Ok P := by
  obtain ⟨s', e, h⟩ := foldR_inv I h0 fun s x hs hx => (step s x hs hx).get
  rw [e]; exact fin s' h
theorem nxO {s : σ} {I : σ → Prop} (h : I s) : (Res.ok (Ctl.nx s : Ctl σ ρ)).Ok fun c => ∃ s', c = .nx s' ∧ I s' := ⟨s, rfl, h⟩
end
theorem pix_of {α : Type} {xs : List α} {i n : Int} (h0 : 0 ≤ i) (h1 : i < n) {P : α → Prop} (hp : ∀ x ∈ xs, P x) (hn : n = (xs.length : Int) := by rfl) : (pix xs i).Ok P := by
  obtain ⟨k, rfl⟩ := Int.eq_ofNat_of_zero_le h0
  have hk : k < xs.length := by omega
  exact ok_of (pix_nat (List.getElem?_eq_getElem hk)) (hp _ (List.getElem_mem hk))
/-! ### texts as lists of signs -/
abbrev mk (l : List Nat) : Str := ⟨l.toArray⟩
theorem signs_mk {l : List Nat} : signsL (mk l) = l := rfl
theorem mk_signs (z : Str) : mk (signsL z) = z := TL.mk_tl z
theorem s_ext {x y : Str} (h : signsL x = signsL y) : x = y := TL.ext_tl h
theorem s_len (z : Str) : z.length = (signsL z).length := TL.len_tl z
theorem mk_len {l : List Nat} : (mk l).length = l.length := s_len _
theorem mk_inj {l m : List Nat} : (mk l = mk m) ↔ l = m := ⟨fun h => by have := congrArg signsL h; exact this, fun h => by rw [h]⟩
theorem s_lit {z : String} : signsL (Str.ofString z) = z.toList.map Char.toNat := TL.tl_ofString z
theorem pcat_mk {a b : Str} (h : a.length + b.length ≤ 1000000) : pcat a b = .ok (mk (signsL a ++ signsL b)) := by
  unfold pcat
  rw [guard_ok (by rw [sz]; omega)]
  congr 1
  exact s_ext (TL.tl_append a b)
theorem prepS_mk {z : Str} {n : Int} (h0 : 0 ≤ n) (h : z.length * n.toNat ≤ 1000000) (h2 : n ≤ 1000000) : prepS z n = .ok (mk (List.replicate n.toNat (signsL z)).flatten) := by
  unfold prepS
  rw [guard_ok ⟨⟨by omega, by omega⟩, by rw [sz]; omega⟩]
  rfl
theorem pixS_mk {z : Str} {i : Nat} {c : Nat} (hl : z.length ≤ 1000000) (h : (signsL z)[i]? = some c) : pixS z (i : Int) = .ok c := by
  unfold pixS
  rw [if_pos (by rw [sz]; omega), pix_nat h]
theorem plenS_mk {z : Str} (hl : z.length ≤ 1000000) : plenS z = .ok ((signsL z).length : Int) := by
  unfold plenS
  rw [guard_ok (by rw [sz]; omega), s_len]
theorem pslS_mk {z : Str} {lo hi : Option Int} (hl : z.length ≤ 1000000) : pslS z lo hi = .ok (mk (cutD (signsL z) lo hi)) := by
  unfold pslS
  rw [guard_ok (by rw [sz]; omega)]
  rfl
theorem cutD_nat {α : Type} {l : List α} {i j : Nat} : cutD l (some (i : Int)) (some (j : Int)) = (l.drop i).take (j - i) := by
  unfold cutD
  rw [HT.sIx_nat, HT.sIx_nat]
  by_cases h : i ≤ l.length
  · rw [Nat.min_eq_left h]
    by_cases h2 : j ≤ l.length
    · rw [Nat.min_eq_left h2]
    · have e : min j l.length = l.length := Nat.min_eq_right (by omega)
      rw [e, List.take_of_length_le (by rw [List.length_drop]; omega), List.take_of_length_le (by rw [List.length_drop]; omega)]
  · have e : min i l.length = l.length := Nat.min_eq_right (by omega)
    rw [e, List.drop_length, List.drop_eq_nil_of_le (by omega)]; simp
theorem cutD_to {α : Type} {l : List α} {j : Nat} : cutD l none (some (j : Int)) = l.take j := by
  unfold cutD
  rw [HT.sIx_none, HT.sIx_nat, List.drop_zero, Nat.sub_zero]
  by_cases h2 : j ≤ l.length
  · rw [Nat.min_eq_left h2]
  · rw [Nat.min_eq_right (by omega), List.take_of_length_le (by omega), List.take_of_length_le (by omega)]
theorem cutD_from {α : Type} {l : List α} {i : Nat} : cutD l (some (i : Int)) none = l.drop i := by
  unfold cutD
  rw [HT.sIx_none, HT.sIx_nat]
  by_cases h : i ≤ l.length
  · rw [Nat.min_eq_left h, List.take_of_length_le (by rw [List.length_drop]; omega)]
  · have e : min i l.length = l.length := Nat.min_eq_right (by omega)
    rw [e, List.drop_length, List.drop_eq_nil_of_le (by omega)]; simp
/-- a dot becomes a nought -/
def fil (c : Nat) : Nat := if c = 46 then 48 else c
theorem repl1 : ∀ l : List Nat, StrLaws.replL [46] [48] l = l.map fil
  | [] => StrLaws.replL_nil
  | c :: r => by
    by_cases h : c = 46
    · subst h
      rw [StrLaws.replL_hit (by simp) (by rfl)]
      show [48] ++ StrLaws.replL [46] [48] r = _
      rw [repl1 r]; rfl
    · rw [StrLaws.replL_miss (by simpa using h), repl1 r]
      simp [fil, h]
theorem prepl_mk {z : Str} (h : z.length ≤ 1000000) : preplS z "." "0" = .ok (mk ((signsL z).map fil)) := by
  unfold preplS
  have e1 : (Str.ofString "0").length = 1 := by rfl
  rw [guard_ok (by rw [e1]; omega)]
  congr 1
  apply s_ext
  show (Txt.replace z "." "0").cps.toList = _
  rw [StrLaws.replace_list (by show 1 ≤ (Str.ofString ".").length; decide)]
  exact repl1 _
theorem joinL_nil : ∀ (ys : List (List Nat)), TL.joinL [] ys = ys.flatten
  | [] => rfl
  | [y] => by simp [TL.joinL]
  | y :: z :: r => by show y ++ ([] ++ TL.joinL [] (z :: r)) = _; rw [joinL_nil (z :: r)]; simp
theorem pjoin_mk {ys : List Str} (h : (ys.map (·.length)).sum ≤ 1000000) : pjoin "" ys = .ok (mk (ys.map signsL).flatten) := by
  unfold pjoin
  have e1 : (Str.ofString "").length = 0 := by rfl
  rw [guard_ok (by rw [e1]; omega)]
  congr 1
  apply s_ext
  rw [TL.join_eq]
  refine (TL.tl_join _ _).trans ?_
  exact joinL_nil _
/-! ### what steps do to rows of signs -/
def sg (c : Nat) : Bool := !(c == 46 || c == 48)
def okC (c : Nat) : Bool := c == 46 || c == 48 || (decide (97 ≤ c) && decide (c ≤ 122))
theorem dn_list : signsL (".0" : Str) = [46, 48] := by first | rfl | decide +kernel
theorem in_dn {c : Nat} : decide (c ∈ signsL (".0" : Str)) = !sg c := by
  rw [dn_list, Bool.eq_iff_iff]; simp [sg]
theorem cells_list : pcat (".0" : Str) ("abcdefghijklmnopqrstuvwxyz" : Str) = .ok (mk [46, 48, 97, 98, 99, 100, 101, 102, 103, 104, 105, 106, 107, 108, 109, 110, 111, 112, 113, 114, 115, 116, 117, 118, 119, 120, 121, 122]) := by
  rw [pcat_mk (by decide)]; rfl
theorem okC_in {c : Nat} : decide (c ∈ [46, 48, 97, 98, 99, 100, 101, 102, 103, 104, 105, 106, 107, 108, 109, 110, 111, 112, 113, 114, 115, 116, 117, 118, 119, 120, 121, 122]) = okC c := by
  rw [Bool.eq_iff_iff]
  simp only [okC, decide_eq_true_eq, List.mem_cons, List.not_mem_nil, or_false, Bool.or_eq_true, Bool.and_eq_true, beq_iff_eq]
  omega
theorem isE_filter {α : Type} {p : α → Bool} : ∀ {l : List α}, (l.filter p).isEmpty = l.all fun x => !p x
  | [] => rfl
  | x :: l => by
    rw [List.filter_cons, List.all_cons]
    cases h : p x
    · simp [isE_filter]
    · simp
theorem nE_filter {α : Type} {p : α → Bool} {l : List α} : (!(l.filter p).isEmpty) = l.any p := by
  rw [isE_filter, ← List.not_any_eq_all_not]; simp
theorem are_cells_val {z : Str} (hl : z.length ≤ 1000000) : m_are_cells z = .ok ((signsL z).all okC) := by
  unfold m_are_cells
  rw [compR_filter (fun c => !okC c) (by rw [← s_len, sz]; omega) (fun c _ => by rw [cells_list, bind_ok, signs_mk, okC_in]; cases okC c <;> rfl)]
  rw [bind_ok, andR_ok, cond_true, isE_filter]
  simp
abbrev CellS (l : List Nat) : Prop := l.all okC = true
theorem file_ok {l : List Nat} (hl : l.length ≤ 1000000) (h : CellS l) : m_File_make (mk l) = .ok (mk l) := by
  unfold m_File_make
  rw [are_cells_val (by rw [mk_len]; exact hl), signs_mk, h]; rfl
/-! ### what the laws draw: rows of cells, steps -/
section
variable {α β γ σ ρ : Type}
theorem foldIO {f : σ → Int → Res σ} {k : σ → Res β} {lo : Int} {n : Nat} {s : σ} {P : β → Prop} (I : Nat → σ → Prop) (h0 : I 0 s) (step : ∀ (i : Nat) s, i < n → I i s → (f s (lo + (i : Int))).Ok (I (i + 1))) (fin : ∀ s, I n s → (k s).Ok P) : ((foldR f (rangeL lo n) s).bind k).Ok P := by
  obtain ⟨s', e, h⟩ := foldR_rangeI I h0 (n := n) fun i s hi hs => (step i s hi hs).get
  rw [e]; exact fin s' h
theorem foldR_pre {f : σ → α → Res σ} (I : List α → σ → Prop) : ∀ {xs : List α} {pre : List α} {s : σ}, I pre s → (∀ p x q s, pre ++ xs = p ++ x :: q → I p s → ∃ s', f s x = .ok s' ∧ I (p ++ [x]) s') → ∃ s', foldR f xs s = .ok s' ∧ I (pre ++ xs) s'
  | [], pre, s, h, _ => ⟨s, rfl, by rw [List.append_nil]; exact h⟩
  | x :: xs, pre, s, h, hf => by
    obtain ⟨s1, e1, h1⟩ := hf pre x xs s rfl h
    obtain ⟨s2, e2, h2⟩ := foldR_pre I (xs := xs) h1 fun p y q s e hs => hf p y q s (by rw [← e]; simp) hs
    exact ⟨s2, by rw [foldR_cons, e1]; exact e2, by simpa using h2⟩
theorem foldPO {f : σ → α → Res σ} {k : σ → Res β} {xs : List α} {s : σ} {P : β → Prop} (I : List α → σ → Prop) (h0 : I [] s) (step : ∀ p x q s, xs = p ++ x :: q → I p s → (f s x).Ok (I (p ++ [x]))) (fin : ∀ s, I xs s → (k s).Ok P) : ((foldR f xs s).bind k).Ok P := by
  obtain ⟨s', e, h⟩ := foldR_pre I h0 (xs := xs) fun p x q s e hs => (step p x q s e hs).get
  rw [e]; exact fin s' (by simpa using h)
theorem mem_enumL {xs : List α} {x : Int × α} (h : x ∈ enumL xs) : ∃ (i : Nat) (c : α), x = ((i : Int), c) ∧ xs[i]? = some c := by
  unfold enumL at h
  obtain ⟨q, hq, rfl⟩ := List.mem_map.mp h
  exact ⟨q.2, q.1, rfl, List.mem_zipIdx_iff_getElem?.mp hq⟩
end
/-! rows of signs put together -/
theorem chS_sum {α : Type} (f : α → Nat) : ∀ xs : List α, ((xs.map fun x => chS (f x)).map (·.length)).sum = xs.length
  | [] => rfl
  | x :: xs => by rw [List.map_cons, List.map_cons, List.sum_cons, chS_sum f xs, List.length_cons]; show 1 + _ = _; omega
theorem chS_flat {α : Type} (f : α → Nat) : ∀ xs : List α, ((xs.map fun x => chS (f x)).map signsL).flatten = xs.map f
  | [] => rfl
  | x :: xs => by rw [List.map_cons, List.map_cons, List.flatten_cons, chS_flat f xs, List.map_cons]; rfl
theorem join_chS {α : Type} {f : α → Nat} {xs : List α} (h : xs.length ≤ 1000000) : pjoin ("" : Str) (xs.map fun x => chS (f x)) = .ok (mk (xs.map f)) := by
  rw [pjoin_mk (by rw [chS_sum]; exact h), chS_flat]
theorem enum_at {l : List Nat} {p q : List (Int × Nat)} {x : Int × Nat} (h : enumL l = p ++ x :: q) : p.length < l.length ∧ x = ((p.length : Int), l.getD p.length 0) := by
  have g : (enumL l)[p.length]? = some x := by rw [h]; simp
  unfold enumL at g
  rw [List.getElem?_map, List.getElem?_zipIdx] at g
  have hl : p.length < l.length := by
    by_cases c : p.length < l.length
    · exact c
    · rw [List.getElem?_eq_none (by omega)] at g; cases g
  rw [List.getElem?_eq_getElem hl] at g
  refine ⟨hl, ?_⟩
  simp at g
  rw [← g]
  simp [List.getD, hl]
def blk (n : Nat) (l : List Nat) : List (List Nat) := (List.range ((l.length + n - 1) / n)).map fun i => (l.drop (i * n)).take n
theorem blk_flat_to {n : Nat} {l : List Nat} : ∀ k : Nat, ((List.range k).map fun i => (l.drop (i * n)).take n).flatten = l.take (k * n)
  | 0 => by simp
  | k + 1 => by
    rw [List.range_succ, List.map_append, List.flatten_append, blk_flat_to k, Nat.succ_mul, List.take_add]
    simp
theorem blk_flat {n : Nat} (h : 1 ≤ n) (l : List Nat) : (blk n l).flatten = l := by
  unfold blk
  rw [blk_flat_to, List.take_of_length_le]
  have := Nat.div_add_mod (l.length + n - 1) n
  have h2 := Nat.mod_lt (l.length + n - 1) (show n > 0 by omega)
  rw [Nat.mul_comm n] at this
  omega
theorem blk_count {n : Nat} (h : 1 ≤ n) (l : List Nat) : (blk n l).length ≤ l.length := by
  unfold blk
  rw [List.length_map, List.length_range]
  by_cases e : l.length = 0
  · rw [e, Nat.div_eq_of_lt (by omega)]; omega
  · refine Nat.div_le_of_le_mul ?_
    obtain ⟨m, hm⟩ : ∃ m, l.length = m + 1 := ⟨l.length - 1, by omega⟩
    rw [hm, Nat.mul_succ]
    have : m ≤ n * m := Nat.le_mul_of_pos_left m (by omega)
    omega
theorem blk_part {n : Nat} {l b : List Nat} (h : b ∈ blk n l) : b.length ≤ l.length := by
  unfold blk at h
  obtain ⟨i, _, rfl⟩ := List.mem_map.mp h
  rw [List.length_take, List.length_drop]; omega
def SzOk (n : Int) : Prop := 1 ≤ n ∧ n < 1000000000000000000000000000000000000000000000000
theorem rng3B_of {m k : Nat} (hm : m ≤ 1000000) (h : SzOk (k : Int)) : rng3B (0 : Int) (m : Int) (k : Int) := by
  have hb : (k : Int).natAbs < 2 ^ 200 := by
    have e : (2 : Nat) ^ 200 = 1606938044258990275541962092341162602522202993782792835301376 := by decide +kernel
    have := h.2
    simp only [Int.natAbs_natCast]; omega
  exact ⟨⟨small62_of (by omega) (by omega), small62_of (by omega) (by omega)⟩, by have := h.1; omega, Nat.lt_of_lt_of_le (lg hb (by decide)) (by decide)⟩
theorem blocks_val {z : Str} {n : Int} (hn : SzOk n) (hl : z.length ≤ 1000000) : m_blocks_of z n = .ok ((blk n.toNat (signsL z)).map mk) := by
  obtain ⟨h1, h2⟩ := hn
  obtain ⟨k, rfl⟩ := Int.eq_ofNat_of_zero_le (show 0 ≤ n by omega)
  unfold m_blocks_of
  rw [s_len] at hl
  have hg : rng3B (0 : Int) ((signsL z).length : Int) (k : Int) := rng3B_of hl ⟨h1, h2⟩
  rw [plenS_mk (by rw [s_len]; exact hl), bind_ok, guard_ok hg, bind_ok]
  have hc : (((signsL z).length : Int) - 0 + (k : Int) - 1) / (k : Int) = ((((signsL z).length + k - 1) / k : Nat) : Int) := by
    rw [Int.natCast_ediv]; congr 1; omega
  have hcnt := blk_count (n := k) (by omega) (signsL z)
  unfold blk at hcnt
  rw [List.length_map, List.length_range] at hcnt
  rw [hc, Int.toNat_natCast, compR_map (fun x => mk (((signsL z).drop x.toNat).take k))]
  · rw [bind_ok]
    congr 1
    unfold rangeC blk
    rw [List.map_map, List.map_map]
    refine List.map_congr_left fun i _ => ?_
    show mk _ = mk _
    have e : (0 + (i : Int) * (k : Int)).toNat = i * k := by rw [Int.zero_add, ← Int.natCast_mul, Int.toNat_natCast]
    rw [e, Int.toNat_natCast]
  · unfold rangeC
    rw [List.length_map, List.length_range, sz]; omega
  · intro x hx
    unfold rangeC at hx
    obtain ⟨i, _, rfl⟩ := List.mem_map.mp hx
    have e : (0 + (i : Int) * (k : Int)) = ((i * k : Nat) : Int) := by rw [Int.zero_add, ← Int.natCast_mul]
    have e2 : ((i * k : Nat) : Int) + (k : Int) = ((i * k + k : Nat) : Int) := by omega
    rw [e, e2, pslS_mk (by rw [s_len]; exact hl), bind_ok, cutD_nat, Int.toNat_natCast, Nat.add_sub_cancel_left]
/-! ### steps, cell by cell -/
theorem blk_nil {n : Nat} (hn : 1 ≤ n) : blk n [] = [] := by
  unfold blk
  rw [List.length_nil, Nat.div_eq_of_lt (by omega)]; rfl
theorem blk_cons {n : Nat} (hn : 1 ≤ n) {l : List Nat} (h : l ≠ []) : blk n l = l.take n :: blk n (l.drop n) := by
  have hl : 1 ≤ l.length := by cases l with | nil => exact absurd rfl h | cons _ _ => simp
  have e : (l.length + n - 1) / n = ((l.drop n).length + n - 1) / n + 1 := by
    rw [List.length_drop]
    by_cases c : l.length ≤ n
    · have e1 : l.length - n + n - 1 = n - 1 := by omega
      rw [e1, Nat.div_eq_of_lt (show n - 1 < n by omega)]
      have e2 : l.length + n - 1 = (l.length - 1) + n := by omega
      rw [e2, Nat.add_div_right _ (by omega), Nat.div_eq_of_lt (by omega)]
    · have e2 : l.length + n - 1 = (l.length - n + n - 1) + n := by omega
      rw [e2, Nat.add_div_right _ (by omega)]
  unfold blk
  rw [e, List.range_succ_eq_map, List.map_cons, List.map_map]
  congr 1
  · simp
  · refine List.map_congr_left fun i _ => ?_
    show (l.drop ((i + 1) * n)).take n = ((l.drop n).drop (i * n)).take n
    rw [List.drop_drop]
    congr 2
    rw [Nat.succ_mul, Nat.add_comm]
/-- the block of a cell -/
def blkI (n : Nat) (l : List Nat) (i : Nat) : List Nat := (l.drop (i / n * n)).take n
/-! ### springs: what the later laws draw from -/
def Spr (p : List Int) : Prop := ∃ a : Int, p = [a]
theorem sip_o {p : List Int} {many : Int} (hp : Spr p) (h0 : 0 < many) (hm : Sm 8000 many) : (m_law_sip p many).Ok fun r => 0 ≤ r.1 ∧ r.1 < many ∧ Spr r.2 := by
  obtain ⟨a, rfl⟩ := hp
  unfold m_law_sip
  refine be (a := a) rfl ?_
  refine be (pmod_ok h0) ?_
  refine be (a := a) rfl ?_
  refine be (pdiv_ok h0 hm) ?_
  refine be (a := [a / many]) rfl ?_
  exact ⟨Int.emod_nonneg _ (by omega), Int.emod_lt_of_pos _ h0, _, rfl⟩
/-- many written or bounded -/
theorem sip_s {p : List Int} {many : Int} (hp : Spr p) (h0 : 0 < many) (hm : many ≤ 10 ^ 60) : (m_law_sip p many).Ok fun r => 0 ≤ r.1 ∧ r.1 < many ∧ Spr r.2 :=
  sip_o hp h0 (Sm.of (by omega) hm (by unfold Sm; decide +kernel))
theorem spring_o {ns : List Int} {at_ : Int} (h0 : 0 ≤ at_) : (m_law_spring ns at_).Ok Spr := by
  unfold m_law_spring
  refine bi (Q := fun _ => True) (cB (fun h => ?_) fun _ => trivial) fun z _ => ?_
  · have h := of_decide_eq_true h
    obtain ⟨k, rfl⟩ := Int.eq_ofNat_of_zero_le h0
    have hk : k < ns.length := by omega
    exact be (pix_nat (List.getElem?_eq_getElem hk)) trivial
  refine cB (fun _ => ?_) fun _ => ?_
  · refine be (pmul_ok (by decide +kernel) (by decide +kernel)) ?_
    refine be (pmul_ok (by decide +kernel) (by decide +kernel)) ?_
    refine be (pmul_ok (by decide +kernel) (by decide +kernel)) ?_
    refine be (pmul_ok (by decide +kernel) (by decide +kernel)) ?_
    refine be (pmod_ok (by decide +kernel)) ?_
    exact ⟨_, rfl⟩
  · have sm : ∀ x m : Int, 0 < m → m < 2 ^ 62 → (x % m).natAbs < 2 ^ 8000 := fun x m h1 h2 => by
      have g1 := Int.emod_nonneg x (by omega : m ≠ 0)
      have g2 := Int.emod_lt_of_pos x h1
      exact (Sm.of (n := 62) g1 (b := 2 ^ 62 - 1) (by omega) (by unfold Sm; decide)).up (by decide)
    refine foldO (fun s => 0 ≤ s.2.1 ∧ s.2.1 < 2147483497) ⟨Int.emod_nonneg _ (by decide), Int.emod_lt_of_pos _ (by decide)⟩ (fun s x hs _ => ?_) fun s _ => ⟨_, rfl⟩
    have hb : s.2.1.natAbs < 2 ^ 8000 := (Sm.of (n := 62) hs.1 (b := 2 ^ 62 - 1) (by omega) (by unfold Sm; decide)).up (by decide)
    refine be (pmul_ok hb hb) ?_
    refine be (pmul_ok (sm _ _ (by decide) (by decide)) (sm _ _ (by decide) (by decide))) ?_
    exact ⟨Int.emod_nonneg _ (by decide), Int.emod_lt_of_pos _ (by decide)⟩
/-- a comprehension that draws: as many as there are turns -/
theorem compSN {α β σ : Type} {g : σ → α → Res (Option β × σ)} (I : σ → Prop) (Q : β → Prop) {xs : List α} {s : σ} (hl : xs.length ≤ sizeLine) (h0 : I s) (step : ∀ s x, I s → x ∈ xs → (g s x).Ok fun r => (∃ y, r.1 = some y ∧ Q y) ∧ I r.2) : (compS g xs s).Ok fun r => r.1.length = xs.length ∧ (∀ y ∈ r.1, Q y) ∧ I r.2 := by
  unfold compS
  rw [if_pos hl]
  clear hl
  have h : (compSL g xs s).Ok fun r => r.1.length = xs.length ∧ (∀ y ∈ r.1, Q y) ∧ I r.2 := by
    induction xs generalizing s with
    | nil => exact ⟨rfl, (fun y hy => by simp at hy), h0⟩
    | cons x xs ih =>
      show ((g s x).bind _).Ok _
      refine bi (step s x h0 List.mem_cons_self) fun o ⟨⟨y, o1, oy⟩, o2⟩ => ?_
      refine bi (ih o2 fun s y hs hy => step s y hs (List.mem_cons_of_mem _ hy)) fun r ⟨r1, r2, r3⟩ => ?_
      obtain ⟨o, s'⟩ := o
      have o1 : o = some y := o1
      subst o1
      exact ⟨by simp [r1], (fun z hz => by
          have hz : z ∈ y :: r.1 := by simpa using hz
          rcases List.mem_cons.mp hz with e | e
          · rw [e]; exact oy
          · exact r2 z e), r3⟩
  obtain ⟨a, e, q⟩ := h.get
  rw [e]; exact q
/-- a sign of a content -/
def okT (c : Nat) : Bool := c == 48 || (decide (97 ≤ c) && decide (c ≤ 122))
abbrev TxtS (l : List Nat) : Prop := l.all okT = true
def rowB (ok : Nat → Bool) (z : Str) : Bool := decide (0 < (signsL z).length) && decide ((signsL z).length ≤ 30) && (signsL z).all ok
theorem cells_body {ok : Nat → Bool} {tab : List Str} {p : List Int} {len : Int} (hn : (tab.length : Int) = 4) (ht : ∀ z ∈ tab, rowB ok z = true) (hp : Spr p) (h0 : 0 ≤ len) (hm : len ≤ 1000) :
    ((m_law_sip p (4 : Int)).bind fun z1 => (pix tab z1.1).bind fun z2 => (guard (small62 len) ()).bind fun _ => (compS (β := Nat) (fun (s5 : (List Int)) (x4 : Int) => (plenS z2).bind fun z6 => (m_law_sip s5 z6).bind fun z7 => (pixS z2 z7.1).bind fun z8 => Res.ok (some z8, z7.2)) (rangeL 0 (Int.toNat len)) z1.2).bind fun l9 => (pjoin ("" : Str) (l9.1.map chS)).bind fun z10 => Res.ok (z10, l9.2)).Ok
      fun r => ∃ l : List Nat, r.1 = mk l ∧ (l.length : Int) = len ∧ l.all ok = true ∧ Spr r.2 := by
  refine bi (sip_s hp (by decide) (by decide +kernel)) fun z1 ⟨a1, a2, hp⟩ => ?_
  refine bi (pix_of a1 (n := (tab.length : Int)) (by omega) (P := fun z => rowB ok z = true) ht) fun z2 hz => ?_
  simp only [rowB, Bool.and_eq_true, decide_eq_true_eq] at hz
  obtain ⟨⟨z21, z22⟩, z23⟩ := hz
  have hzl : z2.length ≤ 1000000 := by rw [s_len]; omega
  refine bg (small62_of h0 (by omega)) ?_
  refine bi (compSN Spr (fun c => ok c = true) (by rw [rangeL_length, sz]; omega) hp (fun s x hs _ => ?_)) fun r ⟨r1, r2, r3⟩ => ?_
  · refine be (plenS_mk hzl) ?_
    refine bi (sip_s hs (by omega) (by omega)) fun z7 ⟨c1, c2, hs⟩ => ?_
    obtain ⟨k, hk⟩ := Int.eq_ofNat_of_zero_le c1
    have hk2 : k < (signsL z2).length := by omega
    rw [hk]
    refine be (pixS_mk hzl (List.getElem?_eq_getElem hk2)) ?_
    exact ⟨⟨_, rfl, List.all_eq_true.mp z23 _ (List.getElem_mem hk2)⟩, hs⟩
  · rw [rangeL_length] at r1
    have hj := join_chS (f := id) (xs := r.1) (by omega)
    rw [List.map_id] at hj
    refine be hj ?_
    exact ⟨r.1, rfl, by omega, List.all_eq_true.mpr r2, r3⟩
theorem cells_o {p : List Int} {len : Int} (hp : Spr p) (h0 : 0 ≤ len) (hm : len ≤ 1000) : (m_law_cells p len).Ok fun r => ∃ l : List Nat, r.1 = mk l ∧ (l.length : Int) = len ∧ CellS l ∧ Spr r.2 :=
  cells_body (ok := okC) rfl (by decide +kernel) hp h0 hm
theorem text_o {p : List Int} {len : Int} (hp : Spr p) (h0 : 0 ≤ len) (hm : len ≤ 1000) : (m_law_text p len).Ok fun r => ∃ l : List Nat, r.1 = mk l ∧ (l.length : Int) = len ∧ TxtS l ∧ Spr r.2 :=
  cells_body (ok := okT) rfl (by decide +kernel) hp h0 hm
/-- writes: where, what -/
abbrev Wr := Nat × List Nat
def wrV (w : Wr) : Int × Str := ((w.1 : Int), mk w.2)
/-- a write that fits n cells -/
structure WrOk (n : Nat) (w : Wr) : Prop where
  t : TxtS w.2
  e : w.2 ≠ []
  l : w.1 + w.2.length ≤ n
theorem writes_o {p : List Int} {n : Nat} {most : Int} (hp : Spr p) (hn : n ≤ 1000) (h0 : 0 ≤ most) (hm : most ≤ 1000) : (m_law_writes p (n : Int) most).Ok fun r => ∃ ws : List Wr, r.1 = ws.map wrV ∧ (ws.length : Int) ≤ most ∧ (∀ w ∈ ws, WrOk n w) ∧ Spr r.2 := by
  unfold m_law_writes
  refine bi (sip_s hp (by omega) (by omega)) fun z2 ⟨a1, a2, hp⟩ => ?_
  have hk : ∃ k : Int, (if decide ((0 : Int) < (n : Int)) = true then (1 : Int) else 0) = k ∧ (k = 0 ∨ k = 1) ∧ (k = 1 → 0 < n) := by
    by_cases h : (0 : Int) < (n : Int)
    · exact ⟨1, by rw [decide_eq_true h]; rfl, .inr rfl, fun _ => by omega⟩
    · exact ⟨0, by rw [decide_eq_false h]; rfl, .inl rfl, fun h => by omega⟩
  obtain ⟨k, ek, k1, k2⟩ := hk
  rw [ek]
  refine be (pmul_ok (Sm.of a1 (b := 10 ^ 60) (by omega) (by unfold Sm; decide +kernel)) (by rcases k1 with rfl | rfl <;> decide +kernel)) ?_
  have hz : 0 ≤ z2.1 * k ∧ z2.1 * k ≤ most ∧ (0 < z2.1 * k → k = 1) := by
    rcases k1 with rfl | rfl
    · refine ⟨by omega, by omega, by omega⟩
    · refine ⟨by omega, by omega, fun _ => rfl⟩
  obtain ⟨m, hm'⟩ : ∃ m, m = z2.1 * k := ⟨_, rfl⟩
  rw [← hm'] at hz ⊢
  rw [guard_ok (show small62 m from small62_of hz.1 (by omega)), bind_ok]
  refine foldIO (fun i s => ∃ ws : List Wr, s.1 = ws.map wrV ∧ ws.length = i ∧ (∀ w ∈ ws, WrOk n w) ∧ Spr s.2) ⟨[], rfl, rfl, (fun w h => by simp at h), hp⟩ ?_ ?_
  · rintro i s hi ⟨ws, e1, hl, hw, hp⟩
    have hn0 : 0 < n := k2 (hz.2.2 (by omega))
    refine bi (sip_s hp (by omega) (by omega)) fun z8 ⟨b1, b2, hp⟩ => ?_
    refine bi (sip_s hp (by decide) (by decide +kernel)) fun z9 ⟨c1, c2, hp⟩ => ?_
    refine bi (pix_of c1 c2 (P := fun x => 1 ≤ x ∧ x ≤ 9) (by decide)) fun z10 hz10 => ?_
    refine bi (sip_s hp (by omega) (by omega)) fun z11 ⟨d1, d2, hp⟩ => ?_
    refine bi (text_o hp (by omega) (by omega)) fun z13 ⟨t, t1, t2, t3, hp⟩ => ?_
    rw [t1, e1]
    refine be (a := ws.map wrV ++ [(z8.1, mk t)]) (guard_ok (by rw [List.length_map, sz]; omega)) ?_
    obtain ⟨b, hb⟩ := Int.eq_ofNat_of_zero_le b1
    refine ⟨ws ++ [(b, t)], by rw [hb]; simp [wrV], by simp [hl], fun w hww => ?_, hp⟩
    rcases List.mem_append.mp hww with h | h
    · exact hw w h
    · rw [List.mem_singleton.mp h]
      refine ⟨t3, fun e => ?_, ?_⟩
      · have e : t = [] := e
        rw [e] at t2; simp at t2; omega
      · show b + t.length ≤ n; omega
  · rintro s ⟨ws, e1, hl, hw, hp⟩
    exact ⟨ws, e1, by omega, hw, hp⟩
/-! ### histories: what they read as at each moment -/
theorem text_list : pcat ("0" : Str) ("abcdefghijklmnopqrstuvwxyz" : Str) = .ok (mk [48, 97, 98, 99, 100, 101, 102, 103, 104, 105, 106, 107, 108, 109, 110, 111, 112, 113, 114, 115, 116, 117, 118, 119, 120, 121, 122]) := by
  rw [pcat_mk (by decide)]; rfl
theorem okT_in {c : Nat} : decide (c ∈ [48, 97, 98, 99, 100, 101, 102, 103, 104, 105, 106, 107, 108, 109, 110, 111, 112, 113, 114, 115, 116, 117, 118, 119, 120, 121, 122]) = okT c := by
  rw [Bool.eq_iff_iff]
  simp only [okT, decide_eq_true_eq, List.mem_cons, List.not_mem_nil, or_false, Bool.or_eq_true, Bool.and_eq_true, beq_iff_eq]
  omega
theorem is_content_val {z : Str} (hl : z.length ≤ 1000000) : m_is_content z = .ok ((signsL z).all okT) := by
  unfold m_is_content
  rw [compR_filter (fun c => !okT c) (by rw [← s_len, sz]; omega) (fun c _ => by rw [text_list, bind_ok, signs_mk, okT_in]; cases okT c <;> rfl)]
  rw [bind_ok, andR_ok, cond_true, isE_filter]
  simp
theorem is_write_val {n : Nat} {w : Wr} (h : WrOk n w) (hn : n ≤ 100000) : m_is_write (wrV w) (n : Int) = .ok true := by
  have hl : (mk w.2).length ≤ 1000000 := by have := h.l; rw [mk_len]; omega
  unfold m_is_write
  rw [decide_eq_true rfl, Bool.not_true, cond_false, show m_is_whole (wrV w).1 = .ok true from rfl, bind_ok, cond_true, show (wrV w).2 = mk w.2 from rfl, is_content_val hl, bind_ok, signs_mk, h.t, cond_true, decide_eq_true (show (0 : Int) ≤ (wrV w).1 by show (0 : Int) ≤ (w.1 : Int); omega), andR_ok, cond_true,
    decide_eq_false (fun e => h.e (by have := congrArg signsL e; rw [signs_mk] at this; rw [this]; rfl)), plenS_mk hl, bind_ok, signs_mk]
  rw [decide_eq_true (show (wrV w).1 + ((w.2).length : Int) ≤ (n : Int) by show (w.1 : Int) + _ ≤ _; have := h.l; omega)]
  rfl
theorem check_write_val {n : Nat} {w : Wr} (h : WrOk n w) (hn : n ≤ 100000) : m_check_write (wrV w) (n : Int) = .ok () := by
  unfold m_check_write
  rw [is_write_val h hn]; rfl
theorem file_len_val {l : List Nat} (hl : l.length ≤ 100000) : plenO (m_File_len (mk l)) = .ok (l.length : Int) := by
  unfold plenO m_File_len
  rw [plenS_mk (by rw [mk_len]; omega), signs_mk, bind_ok, ne_ok, bind_ok]
  have h1 : 0 ≤ (l.length : Int) ∧ (l.length : Int) < 2 ^ 63 := ⟨by omega, by omega⟩
  exact guard_ok h1
/-- a file and writes that fit it -/
structure HistOk (l : List Nat) (ws : List Wr) : Prop where
  c : CellS l
  n : l.length ≤ 10000
  w : ∀ w ∈ ws, WrOk l.length w
  m : ws.length ≤ 10000
abbrev hisV (l : List Nat) (ws : List Wr) : Str × List (Int × Str) := (mk l, ws.map wrV)
theorem foldR_unit {α : Type} {f : Unit → α → Res Unit} : ∀ {xs : List α}, (∀ x ∈ xs, f () x = .ok ()) → foldR f xs () = .ok ()
  | [], _ => rfl
  | x :: xs, h => by rw [foldR_cons, h x List.mem_cons_self, bind_ok]; exact foldR_unit fun y hy => h y (List.mem_cons_of_mem _ hy)
theorem check_file_val {z : Str} : m_check_file z = .ok () := rfl
theorem history_val {l : List Nat} {ws : List Wr} (h : HistOk l ws) : m_History_make (mk l) (some (ws.map wrV)) = .ok (hisV l ws) := by
  unfold m_History_make
  rw [check_file_val, bind_ok]
  show (foldR _ (ws.map wrV) ()).bind _ = _
  rw [foldR_unit fun x hx => by
    obtain ⟨w, hw, rfl⟩ := List.mem_map.mp hx
    have := h.n
    rw [file_len_val (by omega), bind_ok, check_write_val (h.w w hw) (by omega)]; rfl]
  rfl
/-- a row with a text put into it -/
def putL (r : List Nat) (w : Wr) : List Nat := r.take w.1 ++ w.2 ++ r.drop (w.1 + w.2.length)
theorem putL_len {r : List Nat} {w : Wr} (h : w.1 + w.2.length ≤ r.length) : (putL r w).length = r.length := by
  unfold putL; rw [List.length_append, List.length_append, List.length_take, List.length_drop]; omega
theorem putL_txt {r : List Nat} {w : Wr} (h : TxtS r) (hw : TxtS w.2) : TxtS (putL r w) := by
  refine List.all_eq_true.mpr fun x hx => ?_
  unfold putL at hx
  rcases List.mem_append.mp hx with hx | hx
  · rcases List.mem_append.mp hx with hx | hx
    · exact List.all_eq_true.mp h x (List.mem_of_mem_take hx)
    · exact List.all_eq_true.mp hw x hx
  · exact List.all_eq_true.mp h x (List.mem_of_mem_drop hx)
/-- what a row becomes, write by write, itself first -/
def stsF (r : List Nat) : List Wr → List (List Nat)
  | [] => [r]
  | w :: ws => r :: stsF (putL r w) ws
def sts (l : List Nat) (ws : List Wr) : List (List Nat) := stsF (l.map fil) ws
theorem stsF_len {r : List Nat} : ∀ {ws : List Wr}, (stsF r ws).length = ws.length + 1
  | [] => rfl
  | w :: ws => by rw [stsF, List.length_cons, stsF_len, List.length_cons]
theorem sts_len {l : List Nat} {ws : List Wr} : (sts l ws).length = ws.length + 1 := stsF_len
theorem stsF_all {n : Nat} {r : List Nat} : ∀ {ws : List Wr}, r.length = n → TxtS r → (∀ w ∈ ws, WrOk n w) → ∀ s ∈ stsF r ws, s.length = n ∧ TxtS s
  | [], hr, ht, _, s, hs => by rw [List.mem_singleton.mp hs]; exact ⟨hr, ht⟩
  | w :: ws, hr, ht, hw, s, hs => by
    have h1 := hw w List.mem_cons_self
    rcases List.mem_cons.mp hs with rfl | hs
    · exact ⟨hr, ht⟩
    · exact stsF_all (by rw [putL_len (by rw [hr]; exact h1.l), hr]) (putL_txt ht h1.t) (fun w' h => hw w' (List.mem_cons_of_mem _ h)) s hs
theorem fil_txt {l : List Nat} (h : CellS l) : TxtS (l.map fil) := by
  refine List.all_eq_true.mpr fun x hx => ?_
  obtain ⟨c, hc, rfl⟩ := List.mem_map.mp hx
  have := List.all_eq_true.mp h c hc
  unfold okC at this
  unfold okT fil
  split
  · rfl
  · simp only [Bool.or_eq_true, beq_iff_eq, Bool.and_eq_true, decide_eq_true_eq] at this ⊢; omega
theorem sts_all {l : List Nat} {ws : List Wr} (h : HistOk l ws) : ∀ s ∈ sts l ws, s.length = l.length ∧ TxtS s := stsF_all (by rw [List.length_map]) (fil_txt h.c) h.w
theorem written_val {r : List Nat} {w : Wr} (hr : r.length ≤ 100000) (hw : w.1 + w.2.length ≤ r.length) : m_written (mk r) (wrV w).1 (wrV w).2 = .ok (mk (putL r w)) := by
  unfold m_written wrV
  have h1 : (mk r).length ≤ 1000000 := by rw [mk_len]; omega
  have h2 : (mk w.2).length ≤ 1000000 := by rw [mk_len]; omega
  rw [pslS_mk h1, bind_ok, signs_mk, cutD_to, pcat_mk (by rw [mk_len, mk_len, List.length_take]; omega), bind_ok, plenS_mk h2, bind_ok, signs_mk, pslS_mk h1, bind_ok, signs_mk, signs_mk,
    show ((w.1 : Int) + (w.2.length : Int)) = ((w.1 + w.2.length : Nat) : Int) by omega, cutD_from, pcat_mk (by rw [mk_len, mk_len, List.length_append, List.length_take, List.length_drop]; omega), bind_ok, signs_mk, signs_mk]
  rfl
theorem pixm1 {α : Type} {xs : List α} {x : α} : pix (xs ++ [x]) (-(1 : Int)) = .ok x := by
  have e : atI (xs ++ [x]) (-(1 : Int)) = some x := by
    unfold atI ixN
    rw [if_neg (by decide), if_pos (by rw [List.length_append, List.length_singleton]; omega)]
    have e2 : (-1 + ((xs ++ [x]).length : Int)).toNat = xs.length := by rw [List.length_append, List.length_singleton]; omega
    show (some (-1 + ((xs ++ [x]).length : Int)).toNat).bind _ = _
    rw [e2]; simp
  unfold pix; rw [e]
/-- the fold of both: the law's and the program's -/
theorem sts_fold {f : List Str → Int × Str → Res (List Str)} {n : Nat} (hn : n ≤ 10000) (hf : ∀ (pre : List (List Nat)) (r : List Nat) (w : Wr), pre.length ≤ 20000 → r.length = n → w.1 + w.2.length ≤ n → f ((pre ++ [r]).map mk) (wrV w) = .ok ((pre ++ [r, putL r w]).map mk)) :
    ∀ {ws : List Wr} {pre : List (List Nat)} {r : List Nat}, pre.length + ws.length ≤ 20000 → r.length = n → (∀ w ∈ ws, WrOk n w) → foldR f (ws.map wrV) ((pre ++ [r]).map mk) = .ok ((pre ++ stsF r ws).map mk)
  | [], pre, r, _, _, _ => rfl
  | w :: ws, pre, r, hl, hr, hw => by
    have h1 := hw w List.mem_cons_self
    have hl : pre.length + (ws.length + 1) ≤ 20000 := hl
    rw [List.map_cons, foldR_cons, hf pre r w (by omega) hr h1.l, bind_ok]
    have e : pre ++ [r, putL r w] = (pre ++ [r]) ++ [putL r w] := by simp
    rw [e, sts_fold hn hf (pre := pre ++ [r]) (by rw [List.length_append, List.length_singleton]; omega) (by rw [putL_len (by rw [hr]; exact h1.l), hr]) fun w' h => hw w' (List.mem_cons_of_mem _ h), List.append_assoc]
    rfl
theorem map_snoc {xs : List (List Nat)} {x : List Nat} : (xs ++ [x]).map mk = xs.map mk ++ [mk x] := by simp
theorem states_val {l : List Nat} {ws : List Wr} (h : HistOk l ws) : m_History_states (hisV l ws) = .ok ((sts l ws).map mk) := by
  have hn := h.n
  unfold m_History_states
  have e1 : m_File_content (mk l) = .ok (mk (l.map fil)) := by
    unfold m_File_content
    rw [prepl_mk (by rw [mk_len]; omega)]; rfl
  rw [e1, ne_ok, bind_ok]
  have := sts_fold (f := fun s3 x4 => (pix s3 (-(1 : Int))).bind fun z8 => (m_written z8 x4.1 x4.2).bind fun z9 => (papp s3 z9).bind fun z7 => Res.ok z7) hn (fun pre r w hp hr hw => by
    rw [map_snoc, pixm1, bind_ok, written_val (by omega) (by rw [hr]; exact hw), bind_ok, show papp (pre.map mk ++ [mk r]) (mk (putL r w)) = .ok (pre.map mk ++ [mk r] ++ [mk (putL r w)]) from guard_ok (by rw [List.length_append, List.length_map, List.length_singleton, sz]; omega)]
    simp) (ws := ws) (pre := []) (r := l.map fil) (by have := h.m; simp; omega) (by rw [List.length_map]) h.w
  simp only [List.nil_append] at this
  show (foldR _ (ws.map wrV) ([l.map fil].map mk)).bind _ = _
  rw [this]; rfl
theorem law_states_val {l : List Nat} {ws : List Wr} (h : HistOk l ws) : m_law_states (mk l) (ws.map wrV) = .ok ((sts l ws).map mk) := by
  have hn := h.n
  unfold m_law_states
  rw [prepl_mk (by rw [mk_len]; omega), signs_mk, bind_ok]
  have := sts_fold (f := fun (s3 : List Str) (x4 : Int × Str) => (pix s3 (-(1 : Int))).bind fun z7 => (pslS z7 none (some x4.1)).bind fun z9 => (pcat z9 x4.2).bind fun z10 => (plenS x4.2).bind fun z11 => (pslS z7 (some (x4.1 + z11)) none).bind fun z12 => (pcat z10 z12).bind fun z13 => (papp s3 z13).bind fun z8 => Res.ok z8) hn (fun pre r w hp hr hw => by
    have hv := written_val (r := r) (w := w) (by omega) (by rw [hr]; exact hw)
    unfold m_written at hv
    rw [map_snoc, pixm1, bind_ok]
    have e : ((pslS (mk r) none (some (wrV w).1)).bind fun z9 => (pcat z9 (wrV w).2).bind fun z10 => (plenS (wrV w).2).bind fun z11 => (pslS (mk r) (some ((wrV w).1 + z11)) none).bind fun z12 => (pcat z10 z12).bind fun z13 => (papp (pre.map mk ++ [mk r]) z13).bind fun z8 => Res.ok z8) =
        ((pslS (mk r) none (some (wrV w).1)).bind fun z1 => (pcat z1 (wrV w).2).bind fun z2 => (plenS (wrV w).2).bind fun z3 => (pslS (mk r) (some ((wrV w).1 + z3)) none).bind fun z4 => (pcat z2 z4).bind fun z5 => Res.ok z5).bind fun z13 => (papp (pre.map mk ++ [mk r]) z13).bind fun z8 => Res.ok z8 := by simp only [bind_bind, bind_ok]
    rw [e, hv, bind_ok, show papp (pre.map mk ++ [mk r]) (mk (putL r w)) = .ok (pre.map mk ++ [mk r] ++ [mk (putL r w)]) from guard_ok (by rw [List.length_append, List.length_map, List.length_singleton, sz]; omega)]
    simp) (ws := ws) (pre := []) (r := l.map fil) (by have := h.m; simp; omega) (by rw [List.length_map]) h.w
  simp only [List.nil_append] at this
  show (foldR _ (ws.map wrV) ([l.map fil].map mk)).bind _ = _
  rw [this]; rfl
/-! ### blocks of all states -/
theorem blk_len {k : Nat} {l : List Nat} : (blk k l).length = (l.length + k - 1) / k := by unfold blk; rw [List.length_map, List.length_range]
/-- block b of a row -/
def bAt (k : Nat) (s : List Nat) (b : Nat) : List Nat := (blk k s).getD b []
/-- all states of one length -/
structure StsOk (L : Nat) (S : List (List Nat)) : Prop where
  ne : 1 ≤ S.length
  n : S.length ≤ 10001
  l : L ≤ 10000
  s : ∀ s ∈ S, s.length = L ∧ TxtS s
theorem sts_ok {l : List Nat} {ws : List Wr} (h : HistOk l ws) : StsOk l.length (sts l ws) := ⟨by rw [sts_len]; omega, by rw [sts_len]; have := h.m; omega, h.n, sts_all h⟩
/-- how many blocks -/
def nB (k L : Nat) : Nat := (L + k - 1) / k
theorem nB_le {k L : Nat} (hk : 1 ≤ k) : nB k L ≤ L := by
  have := blk_count hk (List.replicate L 0)
  rwa [blk_len, List.length_replicate] at this
theorem blk_nB {k L : Nat} {s : List Nat} (h : s.length = L) : (blk k s).length = nB k L := by rw [blk_len, h]; rfl
theorem getD_at {α : Type} {l : List α} {i : Nat} {d : α} (h : i < l.length) : l.getD i d = l[i] := by simp [List.getD, h]
theorem pix_getD {α : Type} {l : List α} {i : Nat} {d : α} (h : i < l.length) : pix l (i : Int) = .ok (l.getD i d) := by rw [pix_nat (List.getElem?_eq_getElem h), getD_at h]
theorem rows_val {S : List (List Nat)} {L : Nat} {n : Int} (hS : StsOk L S) (hn : SzOk n) : compR (β := List Str) (fun x1 => (m_blocks_of x1 n).bind fun z2 => Res.ok (some z2)) (S.map mk) = .ok (S.map fun s => (blk n.toNat s).map mk) := by
  rw [compR_map (fun z => (blk n.toNat (signsL z)).map mk) (by rw [List.length_map, sz]; have := hS.n; omega) fun x hx => by
    obtain ⟨s, hs, rfl⟩ := List.mem_map.mp hx
    have := (hS.s s hs).1
    have := hS.l
    rw [blocks_val hn (by rw [mk_len]; omega)]; rfl, List.map_map]
  rfl
def colsL (k L : Nat) (S : List (List Nat)) : List (List Str) := (List.range (nB k L)).map fun b => S.map fun s => mk (bAt k s b)
theorem columns_val {S : List (List Nat)} {L : Nat} {n : Int} (hS : StsOk L S) (hn : SzOk n) : m_columns_of (S.map mk) n = .ok (colsL n.toNat L S) := by
  have hk : 1 ≤ n.toNat := by have := hn.1; omega
  have hL := hS.l
  have hnb := nB_le (L := L) hk
  unfold m_columns_of
  rw [rows_val hS hn, bind_ok]
  obtain ⟨s0, S', rfl⟩ : ∃ s0 S', S = s0 :: S' := by
    cases S with
    | nil => have := hS.ne; simp at this
    | cons s S => exact ⟨s, S, rfl⟩
  have e0 : pix ((s0 :: S').map fun s => (blk n.toNat s).map mk) (0 : Int) = .ok ((blk n.toNat s0).map mk) := pix_nat (i := 0) rfl
  have hl0 : ((blk n.toNat s0).map mk).length = nB n.toNat L := by rw [List.length_map, blk_nB (hS.s s0 List.mem_cons_self).1]
  rw [e0, bind_ok, hl0, guard_ok (show small62 (nB n.toNat L : Int) from small62_of (by omega) (by omega)), bind_ok, Int.toNat_natCast]
  have hin : ∀ b : Nat, b < nB n.toNat L → compR (β := Str) (fun x6 => (pix x6 (b : Int)).bind fun z7 => Res.ok (some z7)) ((s0 :: S').map fun s => (blk n.toNat s).map mk) = .ok ((s0 :: S').map fun s => mk (bAt n.toNat s b)) := fun b hb => by
    rw [compR_map (fun r => r.getD b (mk [])) (by rw [List.length_map, sz]; have := hS.n; omega) fun x hx => by
      obtain ⟨s, hs, rfl⟩ := List.mem_map.mp hx
      rw [pix_getD (d := mk []) (by rw [List.length_map, blk_nB (hS.s s hs).1]; exact hb)]; rfl, List.map_map]
    congr 1
    refine List.map_congr_left fun s hs => ?_
    have hlen : b < (blk n.toNat s).length := by rw [blk_nB (hS.s s hs).1]; exact hb
    show ((blk n.toNat s).map mk).getD b (mk []) = mk (bAt n.toNat s b)
    unfold bAt
    rw [getD_at (by rw [List.length_map]; exact hlen), getD_at hlen, List.getElem_map]
  rw [compR_map (fun (x5 : Int) => (s0 :: S').map fun s => mk (bAt n.toNat s x5.toNat)) (by rw [rangeL_length, sz]; omega) fun x hx => by
    have := mem_rangeL.mp hx
    obtain ⟨b, rfl⟩ := Int.eq_ofNat_of_zero_le this.1
    rw [hin b (by omega), bind_ok, Int.toNat_natCast], bind_ok]
  unfold colsL rangeL
  rw [List.map_map]
  congr 1
  refine List.map_congr_left fun b _ => ?_
  show (s0 :: S').map (fun s => mk (bAt n.toNat s (0 + (b : Int)).toNat)) = _
  rw [Int.zero_add, Int.toNat_natCast]
/-- the moments from last on at which p holds -/
def fits (n last : Nat) (p : Nat → Bool) : List Nat := ((List.range (n - last)).map fun i => last + i).filter p
theorem mem_fits {n last t : Nat} {p : Nat → Bool} : t ∈ fits n last p ↔ last ≤ t ∧ t < n ∧ p t = true := by
  unfold fits
  rw [List.mem_filter, List.mem_map]
  constructor
  · rintro ⟨⟨i, hi, rfl⟩, hp⟩; have := List.mem_range.mp hi; exact ⟨by omega, by omega, hp⟩
  · rintro ⟨h1, h2, hp⟩; exact ⟨⟨t - last, List.mem_range.mpr (by omega), by omega⟩, hp⟩
theorem fits_sorted {n last : Nat} {p : Nat → Bool} : (fits n last p).Pairwise (· < ·) := by
  unfold fits
  refine List.Pairwise.filter p ?_
  rw [List.pairwise_map]
  exact (List.pairwise_lt_range).imp fun h => by omega
theorem fits_head {n last t : Nat} {r : List Nat} {p : Nat → Bool} (h : fits n last p = t :: r) : last ≤ t ∧ t < n ∧ p t = true ∧ ∀ u, last ≤ u → u < n → p u = true → t ≤ u := by
  have h1 := mem_fits.mp (show t ∈ fits n last p by rw [h]; exact List.mem_cons_self)
  refine ⟨h1.1, h1.2.1, h1.2.2, fun u u1 u2 u3 => ?_⟩
  have hu : u ∈ fits n last p := mem_fits.mpr ⟨u1, u2, u3⟩
  have hs := fits_sorted (n := n) (last := last) (p := p)
  rw [h] at hu hs
  rcases List.mem_cons.mp hu with rfl | hu
  · exact Nat.le_refl _
  · exact Nat.le_of_lt ((List.pairwise_cons.mp hs).1 u hu)
theorem fits_comp {n last : Nat} {p : Nat → Bool} {f : Int → Res (Option Int)} (hn : n ≤ 100000) (hf : ∀ t : Nat, last ≤ t → t < n → f (t : Int) = .ok (if p t then some (t : Int) else none)) :
    compR f (rangeL (last : Int) (Int.toNat ((n : Int) - (last : Int)))) = .ok ((fits n last p).map Int.ofNat) := by
  have e : Int.toNat ((n : Int) - (last : Int)) = n - last := by omega
  rw [e, compR_filter (fun x => p x.toNat) (by rw [rangeL_length, sz]; omega) fun x hx => by
    have := mem_rangeL.mp hx
    obtain ⟨t, rfl⟩ := Int.eq_ofNat_of_zero_le (show 0 ≤ x by omega)
    rw [hf t (by omega) (by omega), Int.toNat_natCast]]
  congr 1
  unfold rangeL fits
  rw [List.filter_map, List.filter_map, List.map_map]
  congr 1
theorem mk_dec {a b : List Nat} : decide (mk a = mk b) = decide (a = b) := by rw [Bool.eq_iff_iff]; simp [mk_inj]
theorem map_at {α β : Type} {f : α → β} {S : List α} {t : Nat} {d : α} (h : t < S.length) : pix (S.map f) (t : Int) = .ok (f (S.getD t d)) := by
  rw [pix_nat (x := f (S.getD t d))]
  rw [List.getElem?_map, List.getElem?_eq_getElem h, getD_at h]; rfl
/-! ### what a block can read from a place on -/
abbrev Blk := List Nat
theorem ltB_tri {a b : Blk} (h : ¬ a < b) (g : a ≠ b) : b < a := by
  rcases Std.lt_trichotomy a b with q | q | q
  · exact absurd q h
  · exact absurd q g
  · exact q
/-- the first place from t on with the text x -/
def nxt (c : List Blk) (t : Nat) (x : Blk) : Option Nat := (fits c.length t fun i => decide (c.getD i [] = x)).head?
theorem nxt_some {c : List Blk} {t f : Nat} {x : Blk} : nxt c t x = some f ↔ t ≤ f ∧ f < c.length ∧ c.getD f [] = x ∧ ∀ u, t ≤ u → u < c.length → c.getD u [] = x → f ≤ u := by
  unfold nxt
  constructor
  · intro h
    cases e : fits c.length t fun i => decide (c.getD i [] = x) with
    | nil => rw [e] at h; cases h
    | cons g r =>
      rw [e] at h; cases h
      obtain ⟨h1, h2, h3, h4⟩ := fits_head e
      exact ⟨h1, h2, of_decide_eq_true h3, fun u u1 u2 u3 => h4 u u1 u2 (decide_eq_true u3)⟩
  · rintro ⟨h1, h2, h3, h4⟩
    have hm : f ∈ fits c.length t fun i => decide (c.getD i [] = x) := mem_fits.mpr ⟨h1, h2, decide_eq_true h3⟩
    cases e : fits c.length t fun i => decide (c.getD i [] = x) with
    | nil => rw [e] at hm; simp at hm
    | cons g r =>
      obtain ⟨g1, g2, g3, g4⟩ := fits_head e
      have := h4 g g1 g2 (of_decide_eq_true g3)
      have := g4 f h1 h2 (decide_eq_true h3)
      show some g = some f
      congr 1; omega
theorem nxt_of {c : List Blk} {t i : Nat} (h1 : t ≤ i) (h2 : i < c.length) : ∃ f, nxt c t (c.getD i []) = some f ∧ f ≤ i := by
  have hm : i ∈ fits c.length t fun j => decide (c.getD j [] = c.getD i []) := mem_fits.mpr ⟨h1, h2, decide_eq_true rfl⟩
  cases e : fits c.length t fun j => decide (c.getD j [] = c.getD i []) with
  | nil => rw [e] at hm; simp at hm
  | cons g r =>
    obtain ⟨g1, g2, g3, g4⟩ := fits_head e
    exact ⟨g, by unfold nxt; rw [e]; rfl, g4 i h1 h2 (decide_eq_true rfl)⟩
def isF (c : List Blk) (t i : Nat) : Bool := decide (nxt c t (c.getD i []) = some i)
def upTo (c : List Blk) (t i : Nat) : List (Blk × Nat) := (((List.range i).map (t + ·)).filter (isF c t)).map fun j => (c.getD j [], j)
def firsts (c : List Blk) (t : Nat) : List (Blk × Nat) := upTo c t (c.length - t)
theorem mem_upTo {c : List Blk} {t i f : Nat} {x : Blk} (hi : t + i ≤ c.length ∨ i = 0) : (x, f) ∈ upTo c t i ↔ nxt c t x = some f ∧ f < t + i := by
  unfold upTo
  rw [List.mem_map]
  constructor
  · rintro ⟨j, hj, e⟩
    obtain ⟨hj, p⟩ := List.mem_filter.mp hj
    obtain ⟨k, hk, rfl⟩ := List.mem_map.mp hj
    have hk := List.mem_range.mp hk
    injection e with e1 e2
    subst e2; subst e1
    exact ⟨of_decide_eq_true p, by omega⟩
  · rintro ⟨h, hf⟩
    obtain ⟨h1, h2, h3, _⟩ := nxt_some.mp h
    refine ⟨f, List.mem_filter.mpr ⟨List.mem_map.mpr ⟨f - t, List.mem_range.mpr (by omega), by omega⟩, ?_⟩, by rw [h3]⟩
    unfold isF
    rw [h3]; exact decide_eq_true h
theorem mem_firsts {c : List Blk} {t f : Nat} {x : Blk} : (x, f) ∈ firsts c t ↔ nxt c t x = some f := by
  unfold firsts
  rw [mem_upTo (by omega)]
  refine ⟨fun h => h.1, fun h => ⟨h, ?_⟩⟩
  have := nxt_some.mp h; omega
theorem upTo_nodup {c : List Blk} {t i : Nat} : ((upTo c t i).map (·.1)).Nodup := by
  unfold upTo
  rw [List.map_map]
  have hn : (((List.range i).map (t + ·)).filter (isF c t)).Nodup := by
    refine List.Pairwise.filter _ ?_
    refine List.Pairwise.map _ (fun a b h => ?_) (List.nodup_range (n := i))
    intro e; exact h (by omega)
  refine List.pairwise_map.mpr (List.Pairwise.imp_of_mem ?_ hn)
  intro a b ha hb hab e
  have pa := of_decide_eq_true (List.mem_filter.mp ha).2
  have pb := of_decide_eq_true (List.mem_filter.mp hb).2
  have e : c.getD a [] = c.getD b [] := e
  rw [e, pb] at pa
  exact hab (Option.some.inj pa).symm
def pV (p : Blk × Nat) : Str × Int := (mk p.1, (p.2 : Int))
theorem dget_map {s : List (Blk × Nat)} {x : Blk} : (dget (s.map pV) (mk x)).isSome = decide (x ∈ s.map (·.1)) := by
  unfold dget
  induction s with
  | nil => rfl
  | cons p s ih =>
    rw [List.map_cons, List.find?_cons, List.map_cons]
    by_cases e : p.1 = x
    · rw [show decide ((pV p).1 = mk x) = true from decide_eq_true (by rw [← e]; rfl)]
      simp [e]
    · rw [show decide ((pV p).1 = mk x) = false from decide_eq_false (fun h => e (mk_inj.mp h)), ih]
      rw [Bool.eq_iff_iff]; simp [Ne.symm e]
/-- texts first, then places -/
def leB (p q : Blk × Nat) : Bool := decide (p.1 < q.1 ∨ (p.1 = q.1 ∧ p.2 ≤ q.2))
theorem leD_pV (p q : Blk × Nat) : leB p q = leD (py2 pyS pyI) (pV p) (pV q) := by
  show leB p q = !PySem.W.dataLt (.tuple [.str (mk q.1), .int q.2]) (.tuple [.str (mk p.1), .int p.2])
  rw [PySem.W.dataLt_pair (by simp [PySem.W.alike]) (by simp [PySem.W.alike]), PySem.W.dataLt_str, PySem.W.dataLt_int]
  have e1 : PyData.eqv (.str (mk q.1)) (.str (mk p.1)) = decide (mk q.1 = mk p.1) := pyS.eqv _ _
  have e2 : PyData.eqv (.int (q.2 : Int)) (.int (p.2 : Int)) = decide ((q.2 : Int) = (p.2 : Int)) := pyI.eqv _ _
  rw [e1, e2, mk_dec]
  unfold leB
  have e3 : ((mk q.1).cps.toList < (mk p.1).cps.toList) = (q.1 < p.1) := rfl
  rw [Bool.eq_iff_iff]
  simp only [e3, decide_eq_true_eq, Bool.not_eq_true']
  by_cases h : q.1 = p.1
  · simp only [h, decide_true, if_true]
    by_cases g : (q.2 : Int) = (p.2 : Int)
    · simp only [g, decide_true, if_true]; exact ⟨fun _ => trivial, fun _ => .inr ⟨trivial, by omega⟩⟩
    · simp only [g, decide_false, Bool.false_eq_true, if_false, decide_eq_false_iff_not]
      constructor
      · rintro (h1 | ⟨_, h1⟩)
        · exact absurd h1 (List.lt_irrefl _)
        · omega
      · intro h1; right; exact ⟨trivial, by omega⟩
  · simp only [h, decide_false, Bool.false_eq_true, if_false, decide_eq_false_iff_not]
    constructor
    · rintro (h1 | ⟨h1, _⟩)
      · exact List.lt_asymm h1
      · exact absurd h1.symm h
    · intro h1; left; exact ltB_tri h1 h
theorem leB_trans (a b c : Blk × Nat) (h : leB a b = true) (g : leB b c = true) : leB a c = true := by
  unfold leB at *
  have h := of_decide_eq_true h
  have g := of_decide_eq_true g
  refine decide_eq_true ?_
  rcases h with h | ⟨h, h'⟩
  · rcases g with g | ⟨g, _⟩
    · exact .inl (List.lt_trans h g)
    · exact .inl (by rw [← g]; exact h)
  · rcases g with g | ⟨g, g'⟩
    · exact .inl (by rw [h]; exact g)
    · exact .inr ⟨h.trans g, by omega⟩
theorem leB_total (a b : Blk × Nat) : (leB a b || leB b a) = true := by
  unfold leB
  rw [Bool.or_eq_true, decide_eq_true_eq, decide_eq_true_eq]
  rcases Std.lt_trichotomy a.1 b.1 with q | q | q
  · exact .inl (.inl q)
  · by_cases h : a.2 ≤ b.2
    · exact .inl (.inr ⟨q, h⟩)
    · exact .inr (.inr ⟨q.symm, by omega⟩)
  · exact .inr (.inl q)
/-- what a block can read from t on, in order, with the first places -/
def rdg (c : List Blk) (t : Nat) : List (Blk × Nat) := (firsts c t).mergeSort leB
theorem mem_rdg {c : List Blk} {t f : Nat} {x : Blk} : (x, f) ∈ rdg c t ↔ nxt c t x = some f := by
  unfold rdg; rw [(List.mergeSort_perm _ _).mem_iff, mem_firsts]
theorem rdg_nodup {c : List Blk} {t : Nat} : ((rdg c t).map (·.1)).Nodup := ((List.mergeSort_perm (firsts c t) leB).map (·.1)).nodup_iff.mpr upTo_nodup
theorem rdg_sorted {c : List Blk} {t : Nat} : (rdg c t).Pairwise fun p q => p.1 < q.1 := by
  have h1 : (rdg c t).Pairwise fun p q => leB p q = true := List.pairwise_mergeSort leB_trans leB_total _
  have h2 : (rdg c t).Pairwise fun p q => p.1 ≠ q.1 := List.pairwise_map.mp rdg_nodup
  refine (h1.and h2).imp fun {p q} h => ?_
  rcases of_decide_eq_true h.1 with g | ⟨g, _⟩
  · exact g
  · exact absurd g h.2
theorem rdg_len {c : List Blk} {t : Nat} : (rdg c t).length ≤ c.length := by
  unfold rdg firsts upTo
  rw [(List.mergeSort_perm _ _).length_eq, List.length_map]
  refine Nat.le_trans (List.length_filter_le _ _) ?_
  rw [List.length_map, List.length_range]; omega
theorem readings_val {c : List Blk} {t : Nat} (hc : c.length ≤ 100000) (ht : t ≤ c.length) : m_readings (c.map mk) (t : Int) = .ok ((rdg c t).map pV) := by
  unfold m_readings
  rw [List.length_map, guard_ok (show small62 (t : Int) ∧ small62 (c.length : Int) from ⟨small62_of (by omega) (by omega), small62_of (by omega) (by omega)⟩), bind_ok]
  have e : Int.toNat ((c.length : Int) - (t : Int)) = c.length - t := by omega
  rw [e]
  refine ok_eq ?_
  refine foldIO (fun i s => s = (upTo c t i).map pV) rfl ?_ ?_
  · rintro i s hi rfl
    have hz : pix (c.map mk) ((t : Int) + (i : Int)) = .ok (mk (c.getD (t + i) [])) := by
      rw [show (t : Int) + (i : Int) = ((t + i : Nat) : Int) by omega]; exact map_at (by omega)
    rw [hz, bind_ok]
    have hnew : decide (c.getD (t + i) [] ∈ (upTo c t i).map (·.1)) = !isF c t (t + i) := by
      unfold isF
      obtain ⟨f, f1, f2⟩ := nxt_of (c := c) (t := t) (i := t + i) (by omega) (by omega)
      rw [f1]
      by_cases e : f = t + i
      · rw [show decide (some f = some (t + i)) = true from decide_eq_true (by rw [e]), Bool.not_true]
        refine decide_eq_false fun h => ?_
        obtain ⟨p, hp, e1⟩ := List.mem_map.mp h
        obtain ⟨x, g⟩ := p
        have hp := (mem_upTo (by omega)).mp hp
        have e1 : x = c.getD (t + i) [] := e1
        rw [e1, f1] at hp
        have := Option.some.inj hp.1; omega
      · rw [show decide (some f = some (t + i)) = false from decide_eq_false (fun h => e (Option.some.inj h)), Bool.not_false]
        exact decide_eq_true (List.mem_map.mpr ⟨(c.getD (t + i) [], f), (mem_upTo (by omega)).mpr ⟨f1, by omega⟩, rfl⟩)
    rw [dget_map, hnew, Bool.not_not]
    have hsucc : upTo c t (i + 1) = upTo c t i ++ (if isF c t (t + i) then [(c.getD (t + i) [], t + i)] else []) := by
      unfold upTo
      rw [List.range_succ, List.map_append, List.filter_append, List.map_append]
      congr 1
      show (([t + i] : List Nat).filter (isF c t)).map _ = _
      rw [List.filter_cons]
      split <;> rfl
    have hl : (upTo c t i).length ≤ i := by
      unfold upTo; rw [List.length_map]
      refine Nat.le_trans (List.length_filter_le _ _) ?_
      rw [List.length_map, List.length_range]; exact Nat.le_refl _
    cases h : isF c t (t + i) with
    | true =>
      rw [cond_true, bind_ok]
      have hg : (dget ((upTo c t i).map pV) (mk (c.getD (t + i) []))).isSome = false := by rw [dget_map, hnew, h]; rfl
      have hp : pdput ((upTo c t i).map pV) (mk (c.getD (t + i) [])) ((t : Int) + (i : Int)) = .ok ((upTo c t i).map pV ++ [(mk (c.getD (t + i) []), (t : Int) + (i : Int))]) := by
        unfold pdput dput
        rw [hg, if_neg (by decide)]
        exact guard_ok (by rw [List.length_map, sz]; omega)
      rw [hp, bind_ok, bind_ok]
      show _ = _
      rw [hsucc, h, if_pos rfl, List.map_append]
      congr 1
    | false =>
      rw [cond_false, bind_ok]
      show _ = _
      rw [hsucc, h, if_neg (by decide), List.append_nil]
  · rintro s rfl
    have hl : (upTo c t (c.length - t)).length ≤ c.length - t := by
      unfold upTo; rw [List.length_map]
      refine Nat.le_trans (List.length_filter_le _ _) ?_
      rw [List.length_map, List.length_range]; exact Nat.le_refl _
    refine be (compR_map (f := fun (x16 : Str × Int) => Res.ok (some (x16.1, x16.2))) id (by rw [List.length_map, sz]; omega) fun _ _ => rfl) ?_
    rw [List.map_id]
    refine be (guard_ok (by rw [List.length_map, sz]; omega)) ?_
    show _ = _
    unfold rdg firsts
    rw [List.map_mergeSort (s := leD (py2 pyS pyI)) fun a _ b _ => leD_pV a b]
/-! ### how many contents; the content with a number -/
def cnt : List (List Blk) → Nat → Nat
  | [], _ => 1
  | c :: cs, t => ((rdg c t).map fun p => cnt cs p.2).sum
def rows (P : Nat) (cs : List (List Blk)) : List Int := (List.range P).map fun t => (cnt cs t : Int)
def cntL (P : Nat) : List (List Blk) → List (List Int)
  | [] => [rows P []]
  | c :: cs => rows P (c :: cs) :: cntL P cs
theorem cntL_head {P : Nat} {cs : List (List Blk)} : ∃ r, cntL P cs = rows P cs :: r := by cases cs <;> exact ⟨_, rfl⟩
theorem cntL_len {P : Nat} : ∀ {cs : List (List Blk)}, (cntL P cs).length = cs.length + 1
  | [] => rfl
  | c :: cs => by rw [cntL, List.length_cons, cntL_len, List.length_cons]
theorem cntL_at {P : Nat} : ∀ {cs : List (List Blk)} {b : Nat}, b ≤ cs.length → (cntL P cs)[b]? = some (rows P (cs.drop b))
  | [], 0, _ => rfl
  | [], b + 1, h => by simp at h
  | c :: cs, 0, _ => rfl
  | c :: cs, b + 1, h => by rw [cntL, List.getElem?_cons_succ, cntL_at (by simpa using h)]; rfl
theorem sum_nat {α : Type} {f : α → Nat} : ∀ {l : List α}, (l.map fun x => (f x : Int)).sum = ((l.map f).sum : Nat)
  | [] => rfl
  | x :: l => by rw [List.map_cons, List.sum_cons, sum_nat, List.map_cons, List.sum_cons, Int.natCast_add]
theorem counts_val {P : Nat} (hP : P ≤ 100000) {cols : List (List Blk)} (hl : cols.length ≤ 100000) (hc : ∀ c ∈ cols, c.length = P) : m_counts_of (cols.map fun c => c.map mk) (P : Int) = .ok (cntL P cols) := by
  unfold m_counts_of
  rw [guard_ok (show small62 (P : Int) from small62_of (by omega) (by omega)), bind_ok, Int.toNat_natCast, compR_map (fun _ => (1 : Int)) (by rw [rangeL_length, sz]; omega) fun _ _ => rfl, bind_ok]
  have e1 : (rangeL 0 P).map (fun _ => (1 : Int)) = rows P [] := by
    unfold rows rangeL; rw [List.map_map]; rfl
  rw [e1, ← List.map_reverse]
  have key : ∀ (cs : List (List Blk)), cs.length ≤ 100000 → (∀ c ∈ cs, c.length = P) → foldR (fun (s4 : (List (List Int))) (x5 : List Str) => (Res.ok ()).bind fun _ => (compR (β := Int) (fun x9 => (m_readings x5 x9).bind fun z10 => (compR (β := Int) (fun x11 => (pix s4 (-(1 : Int))).bind fun z12 => (pix z12 x11.2).bind fun z13 => Res.ok (some z13)) z10).bind fun l14 => Res.ok (some (l14.sum))) (rangeL 0 P)).bind fun l15 => (papp s4 l15).bind fun z8 => Res.ok z8) (cs.reverse.map fun c => c.map mk) [rows P []] = .ok (cntL P cs).reverse := by
    intro cs
    induction cs with
    | nil => intro _ _; rfl
    | cons c cs ih =>
      intro hl hc
      have hl : cs.length + 1 ≤ 100000 := hl
      rw [List.reverse_cons, List.map_append, foldR_append, ih (by omega) fun c' h => hc c' (List.mem_cons_of_mem _ h), bind_ok]
      show (foldR _ [c.map mk] _) = _
      rw [foldR_cons, bind_ok]
      obtain ⟨r, hr⟩ := cntL_head (P := P) (cs := cs)
      have hrl : r.length + 1 = cs.length + 1 := by rw [← cntL_len (P := P), hr]; rfl
      have hcl := hc c List.mem_cons_self
      rw [hr, List.reverse_cons, compR_map (fun (x : Int) => (cnt (c :: cs) x.toNat : Int)) (by rw [rangeL_length, sz]; omega) fun x hx => by
        have := mem_rangeL.mp hx
        obtain ⟨t, rfl⟩ := Int.eq_ofNat_of_zero_le this.1
        rw [readings_val (by omega) (by omega), bind_ok, compR_map (fun p => (cnt cs p.2.toNat : Int)) (by rw [List.length_map, sz]; have := rdg_len (c := c) (t := t); omega) fun p hp => by
          obtain ⟨q, hq, rfl⟩ := List.mem_map.mp hp
          obtain ⟨x, f⟩ := q
          have := nxt_some.mp (mem_rdg.mp hq)
          rw [pixm1, bind_ok]
          show (pix (rows P cs) (f : Int)).bind _ = Res.ok (some (cnt cs (f : Int).toNat : Int))
          rw [pix_nat (x := (cnt cs f : Int)) (by unfold rows; rw [List.getElem?_map, List.getElem?_range (by omega)]; rfl), bind_ok, Int.toNat_natCast], bind_ok, List.map_map]
        congr 2
        rw [Int.toNat_natCast]
        show ((rdg c t).map fun p => (cnt cs ((p.2 : Int)).toNat : Int)).sum = _
        simp only [Int.toNat_natCast]
        rw [sum_nat]; rfl, bind_ok]
      have e2 : (rangeL 0 P).map (fun (x : Int) => (cnt (c :: cs) x.toNat : Int)) = rows P (c :: cs) := by
        unfold rows rangeL; rw [List.map_map]
        refine List.map_congr_left fun t _ => ?_
        show (cnt (c :: cs) (0 + (t : Int)).toNat : Int) = _
        rw [Int.zero_add, Int.toNat_natCast]
      rw [e2, show papp (r.reverse ++ [rows P cs]) (rows P (c :: cs)) = .ok (r.reverse ++ [rows P cs] ++ [rows P (c :: cs)]) from guard_ok (by rw [List.length_append, List.length_reverse, List.length_singleton, sz]; omega), bind_ok]
      show Res.ok _ = Res.ok _
      rw [cntL, hr, List.reverse_cons, List.reverse_cons]
  rw [key cols hl hc, bind_ok, List.reverse_reverse]
/-- the text with a number among weighted ones -/
def pick (w : Nat → Nat) : List (Blk × Nat) → Nat → Option (Blk × Nat × Nat)
  | [], _ => none
  | p :: r, n => if n < w p.2 then some (p.1, p.2, n) else pick w r (n - w p.2)
def unr : List (List Blk) → Nat → Nat → List Blk
  | [], _, _ => []
  | c :: cs, t, n => match pick (cnt cs) (rdg c t) n with
    | some (x, f, m) => x :: unr cs f m
    | none => []
theorem pick_some {w : Nat → Nat} : ∀ {R : List (Blk × Nat)} {n : Nat}, n < (R.map fun p => w p.2).sum → ∃ x f m, pick w R n = some (x, f, m) ∧ (x, f) ∈ R ∧ m < w f
  | [], n, h => by simp at h
  | p :: r, n, h => by
    rw [List.map_cons, List.sum_cons] at h
    unfold pick
    by_cases g : n < w p.2
    · rw [if_pos g]; exact ⟨_, _, _, rfl, List.mem_cons_self, g⟩
    · rw [if_neg g]
      obtain ⟨x, f, m, e, h1, h2⟩ := pick_some (w := w) (R := r) (n := n - w p.2) (by omega)
      exact ⟨x, f, m, e, List.mem_cons_of_mem _ h1, h2⟩
theorem pick_of {w : Nat → Nat} : ∀ {R : List (Blk × Nat)} {x : Blk} {f m : Nat}, (x, f) ∈ R → m < w f → (R.map (·.1)).Nodup → ∃ n, n < (R.map fun p => w p.2).sum ∧ pick w R n = some (x, f, m)
  | [], x, f, m, h, _, _ => by simp at h
  | p :: r, x, f, m, h, hm, nd => by
    rw [List.map_cons] at nd
    have nd := List.nodup_cons.mp nd
    rw [List.map_cons, List.sum_cons]
    rcases List.mem_cons.mp h with e | h
    · subst e
      have hm' : m < w (x, f).2 := hm
      exact ⟨m, by omega, by unfold pick; rw [if_pos hm']⟩
    · obtain ⟨n, h1, h2⟩ := pick_of h hm nd.2
      refine ⟨n + w p.2, by omega, ?_⟩
      unfold pick
      rw [if_neg (by omega), Nat.add_sub_cancel]; exact h2
theorem pick_inj {w : Nat → Nat} : ∀ {R : List (Blk × Nat)} {n m : Nat} {y : Blk × Nat × Nat}, (R.map (·.1)).Nodup → pick w R n = some y → pick w R m = some y → n = m
  | [], n, m, y, _, h, _ => by simp [pick] at h
  | p :: r, n, m, y, nd, h, g => by
    rw [List.map_cons] at nd
    have nd := List.nodup_cons.mp nd
    have mem : ∀ {R : List (Blk × Nat)} {n : Nat} {y : Blk × Nat × Nat}, pick w R n = some y → y.1 ∈ R.map (·.1) := by
      intro R
      induction R with
      | nil => intro n y h; simp [pick] at h
      | cons q R ih =>
        intro n y h
        unfold pick at h
        rw [List.map_cons]
        split at h
        · cases h; exact List.mem_cons_self
        · exact List.mem_cons_of_mem _ (ih h)
    unfold pick at h g
    split at h
    · rename_i hn
      split at g
      · cases h; cases g; rfl
      · cases h
        exact absurd (mem g) nd.1
    · split at g
      · cases g
        exact absurd (mem h) nd.1
      · have := pick_inj nd.2 h g; omega
/-- contents that can be read from a place on -/
def Rd : List (List Blk) → Nat → List Blk → Prop
  | [], _, w => w = []
  | c :: cs, t, w => ∃ x f v, w = x :: v ∧ nxt c t x = some f ∧ Rd cs f v
theorem unr_Rd : ∀ {cs : List (List Blk)} {t n : Nat}, n < cnt cs t → Rd cs t (unr cs t n)
  | [], t, n, _ => rfl
  | c :: cs, t, n, h => by
    obtain ⟨x, f, m, e, h1, h2⟩ := pick_some (w := cnt cs) h
    rw [unr, e]
    exact ⟨x, f, _, rfl, mem_rdg.mp h1, unr_Rd h2⟩
theorem Rd_unr : ∀ {cs : List (List Blk)} {t : Nat} {w : List Blk}, Rd cs t w → ∃ n, n < cnt cs t ∧ unr cs t n = w
  | [], t, w, h => ⟨0, Nat.one_pos, h.symm⟩
  | c :: cs, t, w, ⟨x, f, v, e, h1, h2⟩ => by
    obtain ⟨m, m1, m2⟩ := Rd_unr h2
    obtain ⟨n, n1, n2⟩ := pick_of (w := cnt cs) (mem_rdg.mpr h1) m1 rdg_nodup
    exact ⟨n, n1, by rw [unr, n2, e, ← m2]⟩
theorem unr_inj : ∀ {cs : List (List Blk)} {t n m : Nat}, n < cnt cs t → m < cnt cs t → unr cs t n = unr cs t m → n = m
  | [], t, n, m, h, g, _ => by
    have h : n < 1 := h
    have g : m < 1 := g
    omega
  | c :: cs, t, n, m, h, g, e => by
    obtain ⟨x, f, a, e1, h1, h2⟩ := pick_some (w := cnt cs) h
    obtain ⟨y, k, b, e2, g1, g2⟩ := pick_some (w := cnt cs) g
    rw [unr, unr, e1, e2] at e
    injection e with ex ev
    subst ex
    have hf := (mem_rdg.mp h1).symm.trans (mem_rdg.mp g1)
    have hf := Option.some.inj hf
    subst hf
    have := unr_inj h2 g2 ev
    subst this
    exact pick_inj rdg_nodup e1 e2
/-- a budget of signs for the columns -/
def Fit : List (List Blk) → Nat → Prop
  | [], _ => True
  | c :: cs, m => ∃ u, u ≤ m ∧ (∀ x ∈ c, x.length ≤ u) ∧ Fit cs (m - u)
def enumF {α : Type} (j : Nat) : List α → List (Int × α)
  | [] => []
  | x :: xs => ((j : Int), x) :: enumF (j + 1) xs
theorem enum_zip {α : Type} : ∀ {xs : List α} {j : Nat}, (xs.zipIdx j).map (fun q => ((q.2 : Int), q.1)) = enumF j xs
  | [], _ => rfl
  | x :: xs, j => by rw [List.zipIdx_cons, List.map_cons, enum_zip]; rfl
theorem enumL_F {α : Type} {xs : List α} : enumL xs = enumF 0 xs := enum_zip
theorem content_loop {P : Nat} (hP : P ≤ 100000) {cols : List (List Blk)} (hl : cols.length ≤ 100000) (hc : ∀ c ∈ cols, c.length = P) {K : Int × Str × Int → Res Str} {J : Str → Res Str} (hK : ∀ s, K s = .ok s.2.1) :
    ∀ {cs : List (List Blk)} {b t n m : Nat} {acc : List Nat}, cols.drop b = cs → t ≤ P → n < cnt cs t → acc.length + m ≤ 1000000 → Fit cs m →
      (forR (ρ := Str) (fun (s1 : (Int × Str × Int)) (x2 : Int × List Str) => (m_readings x2.2 s1.2.2).bind fun z5 => (forR (ρ := Str) (fun (s6 : (Int × Str × Int)) x7 => (pix (cntL P cols) (x2.1 + (1 : Int))).bind fun z10 => (pix z10 x7.2).bind fun z11 => cond (decide (s6.1 < z11)) ((pcat s6.2.1 x7.1).bind fun z12 => Res.ok (Ctl.bk (s6.1, z12, x7.2))) (Res.ok (Ctl.nx ((s6.1 - z11), s6.2.1, s6.2.2)))) z5 (s1.1, s1.2.1, s1.2.2)).bind (Ctl.fin (fun s6 => Res.ok (Ctl.nx (s6.1, s6.2.1, s6.2.2))) (fun r => Res.ok (Ctl.rt r)))) (enumF b (cs.map fun c => c.map mk)) ((n : Int), mk acc, (t : Int))).bind (Ctl.fin K J) = .ok (mk (acc ++ (unr cs t n).flatten))
  | [], b, t, n, m, acc, hd, ht, hn, ha, hf => by
    show Ctl.fin K J (.nx _) = _
    rw [fin_nx, hK]
    show Res.ok (mk acc) = Res.ok (mk (acc ++ [].flatten))
    simp
  | c :: cs, b, t, n, m, acc, hd, ht, hn, ha, ⟨u, hu, hx, hf⟩ => by
    have hbl : b < cols.length := by
      have := congrArg List.length hd
      rw [List.length_drop, List.length_cons] at this; omega
    have hcm : c ∈ cols := List.mem_of_mem_drop (i := b) (by rw [hd]; exact List.mem_cons_self)
    have hd' : cols.drop (b + 1) = cs := by rw [← List.drop_drop, hd]; rfl
    have hcl := hc c hcm
    rw [List.map_cons, enumF, forR_cons]
    show (((m_readings (c.map mk) (t : Int)).bind _).bind _).bind _ = _
    rw [readings_val (by omega) (by omega), bind_ok]
    have inner : ∀ (R : List (Blk × Nat)) (n : Nat), (∀ p ∈ R, p ∈ rdg c t) → n < (R.map fun p => cnt cs p.2).sum → ∃ x f k, pick (cnt cs) R n = some (x, f, k) ∧ (x, f) ∈ R ∧ k < cnt cs f ∧
        forR (ρ := Str) (fun (s6 : (Int × Str × Int)) (x7 : Str × Int) => (pix (cntL P cols) ((b : Int) + (1 : Int))).bind fun z10 => (pix z10 x7.2).bind fun z11 => cond (decide (s6.1 < z11)) ((pcat s6.2.1 x7.1).bind fun z12 => Res.ok (Ctl.bk (s6.1, z12, x7.2))) (Res.ok (Ctl.nx ((s6.1 - z11), s6.2.1, s6.2.2)))) (R.map pV) ((n : Int), mk acc, (t : Int)) = .ok (.nx ((k : Int), mk (acc ++ x), (f : Int))) := by
      intro R
      induction R with
      | nil => intro n _ h; simp at h
      | cons p R ih =>
        intro n hR hn
        rw [List.map_cons, List.sum_cons] at hn
        have hpm := hR p List.mem_cons_self
        obtain ⟨y, g⟩ := p
        have hg := nxt_some.mp (mem_rdg.mp hpm)
        have e1 : pix (cntL P cols) ((b : Int) + (1 : Int)) = .ok (rows P cs) := by
          rw [show (b : Int) + 1 = ((b + 1 : Nat) : Int) by omega, pix_nat (cntL_at (by omega)), hd']
        have e2 : pix (rows P cs) (g : Int) = .ok (cnt cs g : Int) := pix_nat (by unfold rows; rw [List.getElem?_map, List.getElem?_range (by omega)]; rfl)
        rw [List.map_cons, forR_cons, e1, bind_ok]
        show ∃ x f k, _ ∧ _ ∧ _ ∧ (((pix (rows P cs) (g : Int)).bind _).bind _) = _
        rw [e2, bind_ok]
        unfold pick
        by_cases h : n < cnt cs g
        · rw [if_pos h]
          refine ⟨y, g, n, rfl, List.mem_cons_self, h, ?_⟩
          have hyl : y.length ≤ u := by
            refine hx y ?_
            rw [← hg.2.2.1, getD_at (by omega)]; exact List.getElem_mem _
          rw [decide_eq_true (show ((n : Int), mk acc, (t : Int)).1 < (cnt cs g : Int) by show (n : Int) < _; omega), cond_true]
          show (((pcat (mk acc) (mk y)).bind _).bind _) = _
          rw [pcat_mk (by rw [mk_len, mk_len]; omega)]
          rfl
        · rw [if_neg h, decide_eq_false (show ¬ ((n : Int), mk acc, (t : Int)).1 < (cnt cs g : Int) by show ¬ (n : Int) < _; omega), cond_false, bind_ok]
          have hn : n < cnt cs g + (R.map fun p => cnt cs p.2).sum := hn
          obtain ⟨x, f, k, i1, i2, i3, i4⟩ := ih (n - cnt cs g) (fun q hq => hR q (List.mem_cons_of_mem _ hq)) (by omega)
          refine ⟨x, f, k, i1, List.mem_cons_of_mem _ i2, i3, ?_⟩
          rw [go_nx]
          show forR _ (R.map pV) ((n : Int) - (cnt cs g : Int), mk acc, (t : Int)) = _
          rw [show (n : Int) - (cnt cs g : Int) = ((n - cnt cs g : Nat) : Int) by omega]
          rw [e1] at i4
          exact i4
    obtain ⟨x, f, k, i1, i2, i3, i4⟩ := inner (rdg c t) n (fun _ h => h) hn
    rw [show ((n : Int), mk acc, (t : Int)).1 = (n : Int) from rfl] at *
    have hg := nxt_some.mp (mem_rdg.mp i2)
    have hxl : x.length ≤ u := by
      refine hx x ?_
      rw [← hg.2.2.1, getD_at (by omega)]; exact List.getElem_mem _
    show (((forR _ ((rdg c t).map pV) ((n : Int), mk acc, (t : Int))).bind _).bind _).bind _ = _
    rw [i4, bind_ok, fin_nx, bind_ok, go_nx, unr, i1]
    rw [content_loop hP hl hc hK (cs := cs) (b := b + 1) (t := f) (n := k) (m := m - u) (acc := acc ++ x) hd' (by omega) i3 (by rw [List.length_append]; omega) hf]
    rw [List.flatten_cons, List.append_assoc]
theorem content_val {P : Nat} (hP : P ≤ 100000) {cols : List (List Blk)} (hl : cols.length ≤ 100000) (hc : ∀ c ∈ cols, c.length = P) {n m : Nat} (hn : n < cnt cols 0) (hm : m ≤ 1000000) (hf : Fit cols m) : m_content_of (cols.map fun c => c.map mk) (cntL P cols) (n : Int) = .ok (mk (unr cols 0 n).flatten) := by
  unfold m_content_of
  rw [enumL_F]
  have := content_loop (K := fun s1 => Res.ok s1.2.1) (J := fun r => Res.ok r) hP hl hc (fun _ => rfl) (cs := cols) (b := 0) (t := 0) (n := n) (m := m) (acc := []) rfl (Nat.zero_le _) hn (by simp; omega) hf
  rw [List.nil_append] at this
  exact this
theorem txt_app {a b : List Nat} (h : TxtS a) (g : TxtS b) : TxtS (a ++ b) := List.all_eq_true.mpr fun x hx => by
  rcases List.mem_append.mp hx with h1 | h1
  · exact List.all_eq_true.mp h x h1
  · exact List.all_eq_true.mp g x h1
theorem txt_take {a : List Nat} {i : Nat} (h : TxtS a) : TxtS (a.take i) := List.all_eq_true.mpr fun x hx => List.all_eq_true.mp h x (List.mem_of_mem_take hx)
theorem txt_drop {a : List Nat} {i : Nat} (h : TxtS a) : TxtS (a.drop i) := List.all_eq_true.mpr fun x hx => List.all_eq_true.mp h x (List.mem_of_mem_drop hx)
theorem okI_L {xs : List Int} : (pyL pyI).ok xs = true := List.all_eq_true.mpr fun _ _ => rfl
/-! ### what is read at given moments, block by block -/
theorem bAt_len {k L b : Nat} {s : List Nat} (hs : s.length = L) (hb : b < nB k L) : (bAt k s b).length = min k (L - b * k) := by
  unfold bAt
  rw [getD_at (by rw [blk_nB hs]; exact hb)]
  unfold blk
  rw [List.getElem_map, List.getElem_range, List.length_take, List.length_drop, hs]
theorem nB_cons {k L : Nat} (hk : 1 ≤ k) (hL : 0 < L) : nB k L = nB k (L - k) + 1 := by
  unfold nB
  by_cases h : k ≤ L
  · have e : L + k - 1 = (L - k + k - 1) + k := by omega
    rw [e, Nat.add_div_right _ hk]
  · have e1 : L - k = 0 := by omega
    rw [e1, Nat.div_eq_of_lt (show 0 + k - 1 < k by omega)]
    have e2 : L + k - 1 = (L - 1) + k := by omega
    rw [e2, Nat.add_div_right _ hk, Nat.div_eq_of_lt (by omega)]
theorem nB_zero {k : Nat} (hk : 1 ≤ k) : nB k 0 = 0 := Nat.div_eq_of_lt (by omega)
/-- blocks of the right lengths, put together and cut again -/
theorem reblk {k : Nat} (hk : 1 ≤ k) : ∀ {bs : List (List Nat)} {L : Nat}, bs.length = nB k L → (∀ (b : Nat) (x : List Nat), bs[b]? = some x → x.length = min k (L - b * k)) → bs.flatten.length = L ∧ blk k bs.flatten = bs
  | [], L, hl, _ => by
    have : L = 0 := by
      by_cases h : L = 0
      · exact h
      · rw [nB_cons hk (by omega)] at hl; simp at hl
    subst this
    exact ⟨rfl, blk_nil hk⟩
  | x :: bs, L, hl, hb => by
    have hL : 0 < L := by
      by_cases h : L = 0
      · rw [h, nB_zero hk] at hl; simp at hl
      · omega
    rw [nB_cons hk hL, List.length_cons] at hl
    have hx := hb 0 x rfl
    rw [Nat.zero_mul, Nat.sub_zero] at hx
    obtain ⟨h1, h2⟩ := reblk hk (bs := bs) (L := L - k) (by omega) fun b y hy => by
      have := hb (b + 1) y hy
      rw [Nat.succ_mul] at this
      omega
    have hlen : (x :: bs).flatten.length = L := by rw [List.flatten_cons, List.length_append, h1, hx]; omega
    refine ⟨hlen, ?_⟩
    have hne : (x :: bs).flatten ≠ [] := fun e => by rw [e] at hlen; simp at hlen; omega
    rw [blk_cons hk hne, List.flatten_cons]
    by_cases h : k ≤ L
    · have hxk : x.length = k := by omega
      rw [List.take_append_of_le_length (by omega), List.drop_append_of_le_length (by omega), List.take_of_length_le (by omega), List.drop_eq_nil_of_le (by omega), List.nil_append, h2]
    · have hz : bs.flatten.length = 0 := by omega
      have hz := List.length_eq_zero_iff.mp hz
      rw [hz] at h2 ⊢
      rw [List.append_nil, List.take_of_length_le (by omega), List.drop_eq_nil_of_le (by omega), h2]
/-- the blocks read at the moments f -/
def rdB (k L : Nat) (S : List (List Nat)) (f : Nat → Nat) : List (List Nat) := (List.range (nB k L)).map fun b => bAt k (S.getD (f b) []) b
theorem rd_ok {k L : Nat} (hk : 1 ≤ k) {S : List (List Nat)} (hS : StsOk L S) {f : Nat → Nat} (hf : ∀ b, b < nB k L → f b < S.length) : (rdB k L S f).flatten.length = L ∧ blk k (rdB k L S f).flatten = rdB k L S f := by
  refine reblk hk (by unfold rdB; rw [List.length_map, List.length_range]) fun b x hx => ?_
  unfold rdB at hx
  rw [List.getElem?_map] at hx
  by_cases hb : b < nB k L
  · rw [List.getElem?_range hb] at hx
    cases hx
    exact bAt_len ((hS.s _ (by rw [getD_at (hf b hb)]; exact List.getElem_mem _)).1) hb
  · rw [List.getElem?_eq_none (by rw [List.length_range]; omega)] at hx; cases hx
theorem rd_at {k L : Nat} (hk : 1 ≤ k) {S : List (List Nat)} (hS : StsOk L S) {f : Nat → Nat} (hf : ∀ b, b < nB k L → f b < S.length) {b : Nat} (hb : b < nB k L) : bAt k (rdB k L S f).flatten b = bAt k (S.getD (f b) []) b := by
  unfold bAt
  rw [(rd_ok hk hS hf).2]
  unfold rdB
  rw [getD_at (by rw [List.length_map, List.length_range]; exact hb), List.getElem_map, List.getElem_range]; rfl
theorem bAt_txt {k b : Nat} {s : List Nat} (h : TxtS s) : TxtS (bAt k s b) := by
  unfold bAt blk
  by_cases hb : b < (s.length + k - 1) / k
  · rw [getD_at (by rw [List.length_map, List.length_range]; exact hb), List.getElem_map, List.getElem_range]
    exact List.all_eq_true.mpr fun x hx => List.all_eq_true.mp h x (List.mem_of_mem_drop (List.mem_of_mem_take hx))
  · have : (List.map (fun i => (s.drop (i * k)).take k) (List.range ((s.length + k - 1) / k))).getD b [] = [] := by
      simp only [List.getD]
      rw [List.getElem?_eq_none (by rw [List.length_map, List.length_range]; omega)]; rfl
    rw [this]; rfl
theorem rd_txt {k L : Nat} {S : List (List Nat)} (hS : StsOk L S) {f : Nat → Nat} (hf : ∀ b, b < nB k L → f b < S.length) : TxtS (rdB k L S f).flatten := by
  refine List.all_eq_true.mpr fun x hx => ?_
  obtain ⟨y, hy, hxy⟩ := List.mem_flatten.mp hx
  unfold rdB at hy
  obtain ⟨b, hb, rfl⟩ := List.mem_map.mp hy
  have hb := List.mem_range.mp hb
  exact List.all_eq_true.mp (bAt_txt (hS.s _ (by rw [getD_at (hf b hb)]; exact List.getElem_mem _)).2) x hxy
/-! ### what is asked -/
theorem least_val' {n l : Int} (h : l ≤ n) : m_check_least n l = .ok () := by
  unfold m_check_least
  rw [show m_is_whole n = .ok true from rfl, bind_ok, cond_true, decide_eq_false (by omega)]; rfl
theorem asked_val {l : List Nat} {ws : List Wr} {n : Int} (hn : SzOk n) : m_check_asked (hisV l ws) n = .ok () := by
  unfold m_check_asked
  rw [show m_check_history (hisV l ws) = .ok () from rfl, bind_ok, least_val' hn.1]; rfl
theorem within_val {v a b : Int} (h1 : a ≤ v) (h2 : v ≤ b) : m_check_within v a b = .ok () := by
  unfold m_check_within
  rw [show m_is_whole v = .ok true from rfl, bind_ok, cond_true, decide_eq_true h1, cond_true, bind_ok, decide_eq_true h2]; rfl
theorem his_len_val {l : List Nat} {ws : List Wr} (h : ws.length ≤ 100000) : plenO (m_History_len (hisV l ws)) = .ok (ws.length : Int) := by
  unfold plenO m_History_len
  rw [ne_ok, bind_ok]
  show guard _ _ = _
  rw [show ((hisV l ws).2.length : Int) = (ws.length : Int) by rw [List.length_map]]
  have h1 : 0 ≤ (ws.length : Int) ∧ (ws.length : Int) < 2 ^ 63 := ⟨by omega, by omega⟩
  exact guard_ok h1
theorem szOk_of {x : Int} (h1 : 1 ≤ x) (h2 : x ≤ 1000000) : SzOk x := ⟨h1, by omega⟩
/-! ### copies of a part of a history -/
/-- what can be read from t on, block by block -/
def Rds : List (List Blk) → Nat → List Blk → Prop
  | [], _, w => w = []
  | c :: cs, t, w => ∃ i v, w = c.getD i [] :: v ∧ t ≤ i ∧ i < c.length ∧ Rds cs i v
theorem Rds_low : ∀ {cs : List (List Blk)} {t u : Nat} {w : List Blk}, u ≤ t → Rds cs t w → Rds cs u w
  | [], _, _, _, _, h => h
  | c :: cs, t, u, w, h, ⟨i, v, e, h1, h2, h3⟩ => ⟨i, v, e, by omega, h2, h3⟩
theorem Rd_Rds : ∀ {cs : List (List Blk)} {t : Nat} {w : List Blk}, Rd cs t w ↔ Rds cs t w
  | [], _, _ => Iff.rfl
  | c :: cs, t, w => by
    constructor
    · rintro ⟨x, f, v, e, h1, h2⟩
      obtain ⟨g1, g2, g3, _⟩ := nxt_some.mp h1
      exact ⟨f, v, by rw [g3]; exact e, g1, g2, Rd_Rds.mp h2⟩
    · rintro ⟨i, v, e, h1, h2, h3⟩
      obtain ⟨f, f1, f2⟩ := nxt_of h1 h2
      exact ⟨_, f, v, e, f1, Rd_Rds.mpr (Rds_low f2 h3)⟩
/-- the columns of rows -/
def colB (k L : Nat) (P : List (List Nat)) : List (List Blk) := (List.range (nB k L)).map fun b => P.map fun s => bAt k s b
theorem colB_len {k L : Nat} {P : List (List Nat)} : (colB k L P).length = nB k L := by unfold colB; rw [List.length_map, List.length_range]
theorem colB_all {k L : Nat} {P : List (List Nat)} : ∀ c ∈ colB k L P, c.length = P.length := fun c hc => by
  obtain ⟨b, _, rfl⟩ := List.mem_map.mp hc
  rw [List.length_map]
theorem colsL_B {k L : Nat} {P : List (List Nat)} : colsL k L P = (colB k L P).map fun c => c.map mk := by
  unfold colsL colB
  rw [List.map_map]
  refine List.map_congr_left fun b _ => ?_
  show _ = (P.map fun s => bAt k s b).map mk
  rw [List.map_map]; rfl
/-- the copies -/
def Cp (k L : Nat) (P : List (List Nat)) (c : List Nat) : Prop := ∃ w, Rds (colB k L P) 0 w ∧ c = w.flatten
theorem Rds_times {k : Nat} {P : List (List Nat)} : ∀ {m b t : Nat} {w : List Blk}, Rds ((List.range m).map fun i => P.map fun s => bAt k s (b + i)) t w → w.length = m ∧ ∀ (i : Nat) (x : Blk), w[i]? = some x → ∃ u, u < P.length ∧ x = bAt k (P.getD u []) (b + i)
  | 0, b, t, w, h => by
    have h : w = [] := h
    subst h; exact ⟨rfl, fun i x h => by simp at h⟩
  | m + 1, b, t, w, h => by
    rw [List.range_succ_eq_map, List.map_cons, List.map_map] at h
    obtain ⟨u, v, e, h1, h2, h3⟩ := h
    rw [List.length_map] at h2
    have h3' : Rds ((List.range m).map fun i => P.map fun s => bAt k s (b + 1 + i)) u v := by
      have e2 : (List.range m).map ((fun i => P.map fun s => bAt k s (b + i)) ∘ Nat.succ) = (List.range m).map fun i => P.map fun s => bAt k s (b + 1 + i) := List.map_congr_left fun i _ => by
        show P.map (fun s => bAt k s (b + (i + 1))) = _
        rw [show b + (i + 1) = b + 1 + i by omega]
      rwa [e2] at h3
    obtain ⟨g1, g2⟩ := Rds_times h3'
    subst e
    refine ⟨by rw [List.length_cons, g1], fun i x hx => ?_⟩
    cases i with
    | zero =>
      rw [List.getElem?_cons_zero] at hx
      cases hx
      refine ⟨u, h2, ?_⟩
      rw [getD_at (by rw [List.length_map]; exact h2), List.getElem_map, getD_at h2]
    | succ i =>
      rw [List.getElem?_cons_succ] at hx
      obtain ⟨u', u1, u2⟩ := g2 i x hx
      exact ⟨u', u1, by rw [u2, show b + 1 + i = b + (i + 1) by omega]⟩
theorem colB_0 {k L : Nat} {P : List (List Nat)} : colB k L P = (List.range (nB k L)).map fun i => P.map fun s => bAt k s (0 + i) := by
  unfold colB
  exact List.map_congr_left fun i _ => by rw [Nat.zero_add]
theorem Rds_re {k L : Nat} (hk : 1 ≤ k) {P : List (List Nat)} (hP : StsOk L P) {t : Nat} {w : List Blk} (h : Rds (colB k L P) t w) : w.flatten.length = L ∧ blk k w.flatten = w := by
  rw [colB_0] at h
  obtain ⟨h1, h2⟩ := Rds_times h
  refine reblk hk h1 fun b x hx => ?_
  have hb : b < nB k L := by rw [← h1]; exact (List.getElem?_eq_some_iff.mp hx).1
  obtain ⟨u, u1, u2⟩ := h2 b x hx
  rw [u2, Nat.zero_add]
  exact bAt_len (hP.s _ (by rw [getD_at u1]; exact List.getElem_mem u1)).1 hb
/-- the first torn copy among the first ones -/
def tornF (k L : Nat) (S P : List (List Nat)) : Option (List Nat) := ((List.range (min (cnt (colB k L P) 0) (S.length + 1))).map fun i => (unr (colB k L P) 0 i).flatten).find? fun c => decide (c ∉ S)
theorem nodup_len {α : Type} [DecidableEq α] : ∀ {l S : List α}, l.Nodup → (∀ x ∈ l, x ∈ S) → l.length ≤ S.length
  | [], _, _, _ => Nat.zero_le _
  | x :: l, S, h, g => by
    have h := List.nodup_cons.mp h
    have hx := g x List.mem_cons_self
    have := nodup_len (l := l) (S := S.erase x) h.2 fun y hy => (List.mem_erase_of_ne (fun e => h.1 (by rw [← e]; exact hy))).mpr (g y (List.mem_cons_of_mem _ hy))
    rw [List.length_erase_of_mem hx] at this
    have := List.length_pos_of_mem hx
    rw [List.length_cons]; omega
theorem unr_rds {k L : Nat} {P : List (List Nat)} {i : Nat} (h : i < cnt (colB k L P) 0) : Rds (colB k L P) 0 (unr (colB k L P) 0 i) := Rd_Rds.mp (unr_Rd h)
theorem unr_flat_inj {k L : Nat} (hk : 1 ≤ k) {P : List (List Nat)} (hP : StsOk L P) {i j : Nat} (hi : i < cnt (colB k L P) 0) (hj : j < cnt (colB k L P) 0) (e : (unr (colB k L P) 0 i).flatten = (unr (colB k L P) 0 j).flatten) : i = j := by
  have h1 := (Rds_re hk hP (unr_rds hi)).2
  have h2 := (Rds_re hk hP (unr_rds hj)).2
  refine unr_inj hi hj ?_
  rw [← h1, ← h2, e]
theorem cp_unr {k L : Nat} {P : List (List Nat)} {c : List Nat} : Cp k L P c ↔ ∃ i, i < cnt (colB k L P) 0 ∧ c = (unr (colB k L P) 0 i).flatten := by
  constructor
  · rintro ⟨w, h, e⟩
    obtain ⟨n, n1, n2⟩ := Rd_unr (Rd_Rds.mpr h)
    exact ⟨n, n1, by rw [n2]; exact e⟩
  · rintro ⟨i, hi, e⟩
    exact ⟨_, unr_rds hi, e⟩
theorem torn_some {k L : Nat} {S P : List (List Nat)} {c : List Nat} (h : tornF k L S P = some c) : Cp k L P c ∧ c ∉ S := by
  unfold tornF at h
  have h1 := List.find?_some h
  have h2 := List.mem_of_find?_eq_some h
  obtain ⟨i, hi, e⟩ := List.mem_map.mp h2
  have := List.mem_range.mp hi
  exact ⟨cp_unr.mpr ⟨i, by omega, e.symm⟩, of_decide_eq_true h1⟩
theorem torn_none {k L : Nat} (hk : 1 ≤ k) {S P : List (List Nat)} (hP : StsOk L P) (h : tornF k L S P = none) {c : List Nat} (hc : Cp k L P c) : c ∈ S := by
  obtain ⟨i, hi, rfl⟩ := cp_unr.mp hc
  unfold tornF at h
  have h' := List.find?_eq_none.mp h
  have all : ∀ j, j < min (cnt (colB k L P) 0) (S.length + 1) → (unr (colB k L P) 0 j).flatten ∈ S := fun j hj => by
    have := h' _ (List.mem_map.mpr ⟨j, List.mem_range.mpr hj, rfl⟩)
    by_cases g : (unr (colB k L P) 0 j).flatten ∈ S
    · exact g
    · exact absurd (decide_eq_true g) this
  by_cases g : cnt (colB k L P) 0 ≤ S.length + 1
  · exact all i (by omega)
  · exfalso
    have hn : ((List.range (S.length + 1)).map fun j => (unr (colB k L P) 0 j).flatten).Nodup := by
      refine List.pairwise_map.mpr (List.Pairwise.imp_of_mem ?_ (List.nodup_range (n := S.length + 1)))
      intro a b ha hb hab e
      have := List.mem_range.mp ha
      have := List.mem_range.mp hb
      exact hab (unr_flat_inj hk hP (by omega) (by omega) e)
    have := nodup_len hn fun x hx => by
      obtain ⟨j, hj, rfl⟩ := List.mem_map.mp hx
      have := List.mem_range.mp hj
      exact all j (by omega)
    rw [List.length_map, List.length_range] at this; omega
theorem torn_iff {k L : Nat} (hk : 1 ≤ k) {S P : List (List Nat)} (hP : StsOk L P) : (tornF k L S P).isSome = true ↔ ∃ c, Cp k L P c ∧ c ∉ S := by
  constructor
  · intro h
    obtain ⟨c, hc⟩ := Option.isSome_iff_exists.mp h
    exact ⟨c, torn_some hc⟩
  · rintro ⟨c, h1, h2⟩
    cases h : tornF k L S P with
    | some c => rfl
    | none => exact absurd (torn_none hk hP h h1) h2
/-- the part of the moments, in the order of reading -/
def part (S : List (List Nat)) (f l : Nat) (down : Bool) : List (List Nat) := if down then ((S.drop f).take (l + 1 - f)).reverse else (S.drop f).take (l + 1 - f)
theorem part_len {S : List (List Nat)} {f l : Nat} {down : Bool} (h1 : f ≤ l) (h2 : l < S.length) : (part S f l down).length = l + 1 - f := by
  have : ((S.drop f).take (l + 1 - f)).length = l + 1 - f := by rw [List.length_take, List.length_drop]; omega
  unfold part
  cases down with
  | true => rw [if_pos rfl, List.length_reverse, this]
  | false => rw [if_neg (by decide), this]
theorem part_mem {S : List (List Nat)} {f l : Nat} {down : Bool} {s : List Nat} (h : s ∈ part S f l down) : s ∈ S := by
  unfold part at h
  have : s ∈ (S.drop f).take (l + 1 - f) := by
    revert h
    cases down <;> simp
  exact List.mem_of_mem_drop (List.mem_of_mem_take this)
theorem part_ok {L : Nat} {S : List (List Nat)} (hS : StsOk L S) {f l : Nat} {down : Bool} (h1 : f ≤ l) (h2 : l < S.length) : StsOk L (part S f l down) := ⟨by rw [part_len h1 h2]; omega, by rw [part_len h1 h2]; have := hS.n; omega, hS.l, fun s hs => hS.s s (part_mem hs)⟩
theorem fit_of {k : Nat} {P : List (List Nat)} : ∀ {m b M : Nat}, (∀ s ∈ P, s.length ≤ b * k + M) → Fit ((List.range m).map fun i => P.map fun s => bAt k s (b + i)) M := by
  intro m
  induction m with
  | zero => intro b M _; exact trivial
  | succ m ih =>
    intro b M h
    rw [List.range_succ_eq_map, List.map_cons, List.map_map]
    refine ⟨min k M, by omega, fun x hx => ?_, ?_⟩
    · obtain ⟨s, hs, rfl⟩ := List.mem_map.mp hx
      have := h s hs
      show (bAt k s (b + 0)).length ≤ _
      unfold bAt
      by_cases g : b < (blk k s).length
      · rw [Nat.add_zero]
        have e : (blk k s).getD b [] = (s.drop (b * k)).take k := by
          have g' := g
          rw [blk_len] at g'
          unfold blk
          rw [List.getD_eq_getElem?_getD, List.getElem?_map, List.getElem?_range g']; rfl
        rw [e, List.length_take, List.length_drop]; omega
      · rw [Nat.add_zero, List.getD_eq_getElem?_getD, List.getElem?_eq_none (by omega)]; exact Nat.zero_le _
    · have e2 : (List.range m).map ((fun i => P.map fun s => bAt k s (b + i)) ∘ Nat.succ) = (List.range m).map fun i => P.map fun s => bAt k s (b + 1 + i) := List.map_congr_left fun i _ => by
        show P.map (fun s => bAt k s (b + (i + 1))) = _
        rw [show b + (i + 1) = b + 1 + i by omega]
      rw [e2]
      refine ih fun s hs => ?_
      have := h s hs
      have e3 : (b + 1) * k = b * k + k := Nat.succ_mul b k
      omega
theorem okS_txt {c : List Nat} (h : TxtS c) : pyS.ok (mk c) = true := by
  show c.toArray.all (fun x => decide (x < 0x110000)) = true
  rw [List.all_toArray]
  refine List.all_eq_true.mpr fun x hx => decide_eq_true ?_
  have := List.all_eq_true.mp h x hx
  unfold okT at this
  simp only [Bool.or_eq_true, beq_iff_eq, Bool.and_eq_true, decide_eq_true_eq] at this
  omega
theorem pinS {S : List (List Nat)} {c : List Nat} (hc : TxtS c) (hS : ∀ s ∈ S, TxtS s) : pinL pyS.ok (mk c) (S.map mk) = .ok (decide (c ∈ S)) := by
  have : pinL pyS.ok (mk c) (S.map mk) = .ok (decide (mk c ∈ S.map mk)) := guard_ok ⟨okS_txt hc, List.all_eq_true.mpr fun x hx => by
    obtain ⟨s, hs, rfl⟩ := List.mem_map.mp hx
    exact okS_txt (hS s hs)⟩
  rw [this]
  congr 1
  rw [Bool.eq_iff_iff, decide_eq_true_eq, decide_eq_true_eq, List.mem_map]
  exact ⟨fun ⟨a, h, e⟩ => by rw [← mk_inj.mp e]; exact h, fun h => ⟨c, h, rfl⟩⟩
theorem Rds_txt {k L : Nat} {P : List (List Nat)} (hP : StsOk L P) {t : Nat} {w : List Blk} (h : Rds (colB k L P) t w) : TxtS w.flatten := by
  rw [colB_0] at h
  obtain ⟨_, h2⟩ := Rds_times h
  refine List.all_eq_true.mpr fun x hx => ?_
  obtain ⟨y, hy, hxy⟩ := List.mem_flatten.mp hx
  obtain ⟨i, hi, e⟩ := List.getElem_of_mem hy
  obtain ⟨u, u1, u2⟩ := h2 i y (by rw [List.getElem?_eq_getElem hi, e])
  rw [u2] at hxy
  exact List.all_eq_true.mp (bAt_txt (hP.s _ (by rw [getD_at u1]; exact List.getElem_mem u1)).2) x hxy
theorem forR_find {α β ρ : Type} {f : Unit → α → Res (Ctl Unit ρ)} {g : α → β} {p : β → Bool} {r : β → ρ} : ∀ {xs : List α}, (∀ x ∈ xs, f () x = .ok (if p (g x) then .rt (r (g x)) else .nx ())) → forR f xs () = .ok (match (xs.map g).find? p with | some c => .rt (r c) | none => .nx ())
  | [], _ => rfl
  | x :: xs, h => by
    rw [forR_cons, h x List.mem_cons_self, bind_ok, List.map_cons]
    cases e : p (g x) with
    | true => rw [if_pos rfl, List.find?_cons_of_pos e]; rfl
    | false => rw [if_neg (by decide), List.find?_cons_of_neg (by rw [e]; decide), go_nx]; exact forR_find fun y hy => h y (List.mem_cons_of_mem _ hy)
theorem torn_val {L : Nat} {S : List (List Nat)} (hS : StsOk L S) {n : Int} (hn : SzOk n) {f l : Nat} (h1 : f ≤ l) (h2 : l < S.length) {down : Bool} :
    m_torn_within (S.map mk) n (f : Int) (l : Int) down = .ok ((tornF n.toNat L S (part S f l down)).map mk) := by
  have hk : 1 ≤ n.toNat := by have := hn.1; omega
  have hP := part_ok hS (down := down) h1 h2
  have hnb := nB_le (L := L) hk
  have hL := hS.l
  have hSn := hS.n
  have hpl := part_len (down := down) h1 h2
  unfold m_torn_within
  have e0 : m_columns_along (cutD (S.map mk) (some (f : Int)) (some ((l : Int) + (1 : Int)))) n down = .ok ((colB n.toNat L (part S f l down)).map fun c => c.map mk) := by
    unfold m_columns_along
    have : (cond down (Res.ok (cutD (S.map mk) (some (f : Int)) (some ((l : Int) + (1 : Int)))).reverse) (Res.ok (cutD (S.map mk) (some (f : Int)) (some ((l : Int) + (1 : Int)))))) = .ok ((part S f l down).map mk) := by
      rw [show ((l : Int) + (1 : Int)) = ((l + 1 : Nat) : Int) by omega, cutD_nat, ← List.map_drop, ← List.map_take]
      unfold part
      cases down with
      | true => rw [cond_true, if_pos rfl, List.map_reverse]
      | false => rw [cond_false, if_neg (by decide)]
    rw [this, bind_ok, columns_val hP hn, bind_ok, colsL_B]
  have e1 : ((l : Int) + (1 : Int)) - (f : Int) = (((part S f l down).length : Nat) : Int) := by rw [hpl]; omega
  rw [e0, bind_ok, e1, counts_val (by omega) (by rw [colB_len]; omega) colB_all, bind_ok]
  have e2 : pix (cntL (part S f l down).length (colB n.toNat L (part S f l down))) (0 : Int) = .ok (rows (part S f l down).length (colB n.toNat L (part S f l down))) := pix_nat (i := 0) (cntL_at (Nat.zero_le _))
  have e3 : pix (rows (part S f l down).length (colB n.toNat L (part S f l down))) (0 : Int) = .ok (cnt (colB n.toNat L (part S f l down)) 0 : Int) := pix_nat (i := 0) (by unfold rows; rw [List.getElem?_map, List.getElem?_range (by omega)]; rfl)
  have e4 : min (cnt (colB n.toNat L (part S f l down)) 0 : Int) (((S.map mk).length : Int) + (1 : Int)) = ((min (cnt (colB n.toNat L (part S f l down)) 0) (S.length + 1) : Nat) : Int) := by rw [List.length_map]; omega
  rw [e2, bind_ok, e3, bind_ok, e4, guard_ok (small62_of (by omega) (by omega)), bind_ok, Int.toNat_natCast,
    forR_find (g := fun x => (unr (colB n.toNat L (part S f l down)) 0 x.toNat).flatten) (p := fun c => decide (c ∉ S)) (r := fun c => some (mk c)) fun x hx => by
      have := mem_rangeL.mp hx
      obtain ⟨i, rfl⟩ := Int.eq_ofNat_of_zero_le this.1
      have hfit : Fit (colB n.toNat L (part S f l down)) L := by
        rw [colB_0]
        exact fit_of fun s hs => by rw [(hP.s s hs).1]; omega
      rw [content_val (m := L) (by omega) (by rw [colB_len]; omega) colB_all (by omega) (by omega) hfit, bind_ok, pinS (Rds_txt hP (unr_rds (by omega))) (fun s hs => (hS.s s hs).2), bind_ok, Int.toNat_natCast]
      by_cases g : (unr (colB n.toNat L (part S f l down)) 0 i).flatten ∈ S
      · rw [decide_eq_true g, decide_eq_false (by simpa using g)]; rfl
      · rw [decide_eq_false g, decide_eq_true g]; rfl, bind_ok]
  have e5 : (rangeL 0 (min (cnt (colB n.toNat L (part S f l down)) 0) (S.length + 1))).map (fun (x : Int) => (unr (colB n.toNat L (part S f l down)) 0 x.toNat).flatten) = (List.range (min (cnt (colB n.toNat L (part S f l down)) 0) (S.length + 1))).map fun i => (unr (colB n.toNat L (part S f l down)) 0 i).flatten := by
    unfold rangeL
    rw [List.map_map]
    refine List.map_congr_left fun i _ => ?_
    show (unr _ 0 (0 + (i : Int)).toNat).flatten = _
    rw [Int.zero_add, Int.toNat_natCast]
  rw [e5]
  unfold tornF
  cases (List.find? (fun c => decide (c ∉ S)) ((List.range (min (cnt (colB n.toNat L (part S f l down)) 0) (S.length + 1))).map fun i => (unr (colB n.toNat L (part S f l down)) 0 i).flatten)) <;> rfl
/-- is there a torn copy from f to l -/
def tb (k L : Nat) (S : List (List Nat)) (down : Bool) (f l : Nat) : Bool := (tornF k L S (part S f l down)).isSome
/-- the state after the moments up to i -/
def pst (t : Nat → Nat → Bool) : Nat → Nat × List (Nat × Nat) × List Nat
  | 0 => (0, [], [])
  | i + 1 => if t (pst t i).1 (i + 1) then (i, (pst t i).2.1 ++ [((pst t i).1, i + 1)], (pst t i).2.2 ++ [i]) else pst t i
theorem pst_le {t : Nat → Nat → Bool} : ∀ {i : Nat}, (pst t i).1 ≤ i ∧ (pst t i).2.1.length ≤ i ∧ (pst t i).2.2.length ≤ i
  | 0 => ⟨Nat.le_refl _, Nat.le_refl _, Nat.le_refl _⟩
  | i + 1 => by
    have := pst_le (t := t) (i := i)
    unfold pst
    split
    · refine ⟨by show i ≤ i + 1; omega, ?_, ?_⟩
      · show ((pst t i).2.1 ++ [_]).length ≤ _
        rw [List.length_append, List.length_singleton]; omega
      · show ((pst t i).2.2 ++ [_]).length ≤ _
        rw [List.length_append, List.length_singleton]; omega
    · omega
def wP (p : Nat × Nat) : Int × Int := ((p.1 : Int), (p.2 : Int))
/-- where the history can be parted -/
def partedF (k L : Nat) (S : List (List Nat)) (down : Bool) : Option (List Nat) × List (Nat × Nat) :=
  match (List.range (S.length - 1)).find? fun t => tb k L S down t (t + 1) with
  | some t => (none, [(t, t + 1)])
  | none => (some (pst (tb k L S down) (S.length - 1)).2.2, (pst (tb k L S down) (S.length - 1)).2.1)
theorem isN_map {α β : Type} {f : α → β} {o : Option α} : (o.map f).isNone = !o.isSome := by cases o <;> rfl
theorem rangeL_map {m : Nat} : rangeL 0 m = (List.range m).map Int.ofNat := by
  unfold rangeL
  exact List.map_congr_left fun i _ => by rw [Int.zero_add]; rfl
theorem find_map {α β : Type} {g : α → β} {p : β → Bool} : ∀ {xs : List α}, (xs.map g).find? p = (xs.find? fun x => p (g x)).map g
  | [] => rfl
  | x :: xs => by
    rw [List.map_cons]
    cases h : p (g x) with
    | true => rw [List.find?_cons_of_pos h, List.find?_cons_of_pos (by exact h)]; rfl
    | false => rw [List.find?_cons_of_neg (by rw [h]; decide), List.find?_cons_of_neg (by rw [h]; decide), find_map]
abbrev prtB (S : List Str) (n : Int) (down : Bool) : (Int × (List (Int × Int)) × (List Int)) → Int → Res (Int × (List (Int × Int)) × (List Int)) := fun s14 x15 => ((m_torn_within S n s14.1 x15 down).bind fun z19 => cond (!z19.isNone) ((papp s14.2.1 (s14.1, x15)).bind fun z20 => (papp s14.2.2 (x15 - (1 : Int))).bind fun z21 => Res.ok ((x15 - (1 : Int)), z20, z21)) (Res.ok (s14.1, s14.2.1, s14.2.2))).bind fun (s18 : (Int × (List (Int × Int)) × (List Int))) => Res.ok (s18.1, s18.2.1, s18.2.2)
def pstI (t : Nat → Nat → Bool) (i : Nat) : Int × (List (Int × Int)) × (List Int) := (((pst t i).1 : Int), (pst t i).2.1.map wP, (pst t i).2.2.map Int.ofNat)
theorem prt_step {L : Nat} {S : List (List Nat)} (hS : StsOk L S) {n : Int} (hn : SzOk n) {down : Bool} {i : Nat} (hi : i + 1 < S.length) :
    prtB (S.map mk) n down (pstI (tb n.toNat L S down) i) (1 + (i : Int)) = .ok (pstI (tb n.toNat L S down) (i + 1)) := by
  have hle := pst_le (t := tb n.toNat L S down) (i := i)
  have hSn := hS.n
  have tv := torn_val hS hn (f := (pst (tb n.toNat L S down) i).1) (l := i + 1) (down := down) (by omega) hi
  have e5 : pst (tb n.toNat L S down) (i + 1) = if tb n.toNat L S down (pst (tb n.toNat L S down) i).1 (i + 1) then (i, (pst (tb n.toNat L S down) i).2.1 ++ [((pst (tb n.toNat L S down) i).1, i + 1)], (pst (tb n.toNat L S down) i).2.2 ++ [i]) else pst (tb n.toNat L S down) i := rfl
  have ht : (tornF n.toNat L S (part S (pst (tb n.toNat L S down) i).1 (i + 1) down)).isSome = tb n.toNat L S down (pst (tb n.toNat L S down) i).1 (i + 1) := rfl
  unfold pstI
  rw [e5, show (1 : Int) + (i : Int) = ((i + 1 : Nat) : Int) by omega]
  generalize pst (tb n.toNat L S down) i = q at *
  unfold prtB
  simp only
  rw [tv, bind_ok, isN_map, Bool.not_not, ht]
  cases tb n.toNat L S down q.1 (i + 1) with
  | true =>
    rw [cond_true, if_pos rfl, show papp (q.2.1.map wP) ((q.1 : Int), ((i + 1 : Nat) : Int)) = .ok (q.2.1.map wP ++ [((q.1 : Int), ((i + 1 : Nat) : Int))]) from guard_ok (by rw [List.length_map, sz]; omega), bind_ok,
      show (((i + 1 : Nat) : Int) - 1) = (i : Int) by omega, show papp (q.2.2.map Int.ofNat) (i : Int) = .ok (q.2.2.map Int.ofNat ++ [(i : Int)]) from guard_ok (by rw [List.length_map, sz]; omega), bind_ok, bind_ok]
    simp only [List.map_append, List.map_cons, List.map_nil, wP, Int.ofNat_eq_natCast]
  | false =>
    rw [cond_false, if_neg (by decide), bind_ok]
theorem prt_fold {L : Nat} {S : List (List Nat)} (hS : StsOk L S) {n : Int} (hn : SzOk n) {down : Bool} {m : Nat} (hm : m + 1 = S.length) :
    foldR (prtB (S.map mk) n down) (rangeL 1 m) ((0 : Int), ([] : List (Int × Int)), ([] : List Int)) = .ok (pstI (tb n.toNat L S down) m) :=
  foldR_range (lo := (1 : Int)) (fun i => pstI (tb n.toNat L S down) i) fun i hi => prt_step hS hn (by omega)
abbrev prtA (S : List Str) (n : Int) (down : Bool) : Unit → Int → Res (Ctl Unit ((Option (List Int)) × (List (Int × Int)))) := fun s3 x4 => (m_torn_within S n x4 (x4 + (1 : Int)) down).bind fun z7 => cond (!z7.isNone) (Res.ok (Ctl.rt (none, ([(x4, (x4 + (1 : Int)))] : List (Int × Int))))) (Res.ok (Ctl.nx ()))
theorem prt_first {L : Nat} {S : List (List Nat)} (hS : StsOk L S) {n : Int} (hn : SzOk n) {down : Bool} {m : Nat} (hm : m + 1 = S.length) :
    forR (prtA (S.map mk) n down) (rangeL 0 m) () = .ok (match (List.range m).find? (fun t => tb n.toNat L S down t (t + 1)) with | some t => .rt (none, [((t : Int), (t : Int) + 1)]) | none => .nx ()) := by
  rw [rangeL_map]
  have : ∀ xs : List Nat, (∀ t ∈ xs, t < m) → forR (prtA (S.map mk) n down) (xs.map Int.ofNat) () = .ok (match xs.find? (fun t => tb n.toNat L S down t (t + 1)) with | some t => .rt (none, [((t : Int), (t : Int) + 1)]) | none => .nx ()) := by
    intro xs
    induction xs with
    | nil => intro _; rfl
    | cons t xs ih =>
      intro h
      have ht := h t List.mem_cons_self
      rw [List.map_cons, forR_cons]
      unfold prtA
      have tv := torn_val hS hn (f := t) (l := t + 1) (down := down) (by omega) (by omega)
      rw [Int.ofNat_eq_natCast, show ((t : Int) + (1 : Int)) = ((t + 1 : Nat) : Int) by omega, tv, bind_ok, isN_map, Bool.not_not]
      have ht : (tornF n.toNat L S (part S t (t + 1) down)).isSome = tb n.toNat L S down t (t + 1) := rfl
      rw [ht]
      cases e : tb n.toNat L S down t (t + 1) with
      | true => rw [List.find?_cons_of_pos (by exact e), cond_true, bind_ok, go_rt]; rfl
      | false => rw [List.find?_cons_of_neg (by rw [e]; decide), cond_false, bind_ok, go_nx]; exact ih fun u hu => h u (List.mem_cons_of_mem _ hu)
  exact this _ fun t ht => List.mem_range.mp ht
/-! ### parting a history -/
theorem parted_val {l : List Nat} {ws : List Wr} (h : HistOk l ws) {n : Int} (hn : SzOk n) {down : Bool} :
    m_parted (hisV l ws) n down = .ok ((partedF n.toNat l.length (sts l ws) down).1.map (List.map Int.ofNat), (partedF n.toNat l.length (sts l ws) down).2.map wP) := by
  have hS := sts_ok h
  have hm := h.m
  have hsl : (sts l ws).length = ws.length + 1 := sts_len
  unfold m_parted
  rw [states_val h, bind_ok, his_len_val (by omega), bind_ok, guard_ok (small62_of (by omega) (by omega)), bind_ok, Int.toNat_natCast]
  have h1 := prt_first hS hn (down := down) hsl.symm
  have h2 := prt_fold hS hn (down := down) hsl.symm
  unfold prtA at h1
  unfold prtB at h2
  have e2 : Int.toNat ((((sts l ws).map mk).length : Int) - (1 : Int)) = ws.length := by rw [List.length_map]; omega
  rw [h1, bind_ok]
  unfold partedF
  rw [show (sts l ws).length - 1 = ws.length by omega]
  cases hf : List.find? (fun t => tb n.toNat l.length (sts l ws) down t (t + 1)) (List.range ws.length) with
  | some t =>
    rw [fin_rt]; rfl
  | none =>
    rw [fin_nx]
    rw [guard_ok ⟨small62_of (by omega) (by omega), small62_of (by omega) (by rw [List.length_map]; omega)⟩, bind_ok, e2, h2, bind_ok]
    rfl
theorem holds_val {l : List Nat} {ws : List Wr} (h : HistOk l ws) {n : Int} (hn : SzOk n) {down : Bool} : m_holds (hisV l ws) n down = .ok ((partedF n.toNat l.length (sts l ws) down).1.map (List.map Int.ofNat)) := by
  unfold m_holds
  rw [asked_val hn, bind_ok, parted_val h hn]; rfl
theorem windows_val {l : List Nat} {ws : List Wr} (h : HistOk l ws) {n : Int} (hn : SzOk n) {down : Bool} : m_windows (hisV l ws) n down = .ok ((partedF n.toNat l.length (sts l ws) down).2.map wP) := by
  unfold m_windows
  rw [asked_val hn, bind_ok, parted_val h hn]; rfl
/-! ### k63 -/
theorem Rz1 : ∀ {A B : List Blk} {w : List Blk}, A.length = B.length → (Rds (List.zipWith (fun x y => [x, y]) A B) 1 w ↔ w = B)
  | [], [], w, _ => Iff.rfl
  | a :: A, b :: B, w, h => by
    rw [List.zipWith_cons_cons]
    constructor
    · rintro ⟨i, v, e, h1, h2, h3⟩
      have h2 : i < 2 := h2
      have hi : i = 1 := by omega
      subst hi
      rw [e, (Rz1 (by simpa using h)).mp h3]; rfl
    · intro e
      exact ⟨1, B, e, Nat.le_refl _, by show 1 < 2; decide, (Rz1 (by simpa using h)).mpr rfl⟩
  | [], b :: B, w, h => by simp at h
  | a :: A, [], w, h => by simp at h
theorem Rz0 : ∀ {A B : List Blk} {w : List Blk}, A.length = B.length → (Rds (List.zipWith (fun x y => [x, y]) A B) 0 w ↔ ∃ j, j ≤ A.length ∧ w = A.take j ++ B.drop j)
  | [], [], w, _ => by
    constructor
    · intro h
      have h : w = [] := h
      exact ⟨0, Nat.le_refl _, h⟩
    · rintro ⟨j, _, e⟩
      show w = []
      simpa using e
  | a :: A, b :: B, w, h => by
    have h : A.length = B.length := by simpa using h
    rw [List.zipWith_cons_cons]
    constructor
    · rintro ⟨i, v, e, h1, h2, h3⟩
      have h2 : i < 2 := h2
      rcases (show i = 0 ∨ i = 1 by omega) with rfl | rfl
      · obtain ⟨j, j1, j2⟩ := (Rz0 h).mp h3
        exact ⟨j + 1, by rw [List.length_cons]; omega, by rw [e, j2]; rfl⟩
      · exact ⟨0, Nat.zero_le _, by rw [e, (Rz1 h).mp h3]; rfl⟩
    · rintro ⟨j, j1, e⟩
      cases j with
      | zero => exact ⟨1, B, e, Nat.zero_le _, by show 1 < 2; decide, (Rz1 h).mpr rfl⟩
      | succ j => exact ⟨0, A.take j ++ B.drop j, e, Nat.le_refl _, by show 0 < 2; decide, (Rz0 h).mpr ⟨j, by rw [List.length_cons] at j1; omega, rfl⟩⟩
  | [], b :: B, w, h => by simp at h
  | a :: A, [], w, h => by simp at h
theorem colB_two {k L : Nat} {a b : List Nat} (ha : a.length = L) (hb : b.length = L) : colB k L [a, b] = List.zipWith (fun x y => [x, y]) (blk k a) (blk k b) := by
  refine List.ext_getElem ?_ fun i h1 h2 => ?_
  · rw [colB_len, List.length_zipWith, blk_nB ha, blk_nB hb, Nat.min_self]
  · rw [colB_len] at h1
    simp only [colB, List.getElem_map, List.getElem_range, List.getElem_zipWith, List.map_cons, List.map_nil]
    unfold bAt
    rw [getD_at (by rw [blk_nB ha]; exact h1), getD_at (by rw [blk_nB hb]; exact h1)]
theorem blk_take {k j : Nat} {a : List Nat} (hj : j ≤ (blk k a).length) : ((blk k a).take j).flatten = a.take (j * k) := by
  rw [blk_len] at hj
  have e : (blk k a).take j = (List.range j).map fun i => (a.drop (i * k)).take k := by
    unfold blk
    rw [← List.map_take, List.take_range, Nat.min_eq_left hj]
  rw [e, blk_flat_to]
theorem blk_drop {k j : Nat} (hk : 1 ≤ k) {b : List Nat} (hj : j ≤ (blk k b).length) : ((blk k b).drop j).flatten = b.drop (j * k) := by
  have h1 : ((blk k b).take j ++ (blk k b).drop j).flatten = b := by rw [List.take_append_drop, blk_flat hk]
  rw [List.flatten_append, blk_take hj] at h1
  have h2 : b.take (j * k) ++ b.drop (j * k) = b := List.take_append_drop _ _
  exact List.append_cancel_left (h1.trans h2.symm)
theorem cp_two {k L : Nat} (hk : 1 ≤ k) {a b c : List Nat} (ha : a.length = L) (hb : b.length = L) : Cp k L [a, b] c ↔ ∃ j, j ≤ nB k L ∧ c = a.take (j * k) ++ b.drop (j * k) := by
  unfold Cp
  rw [colB_two ha hb]
  have hl : (blk k a).length = (blk k b).length := by rw [blk_nB ha, blk_nB hb]
  constructor
  · rintro ⟨w, h, e⟩
    obtain ⟨j, j1, j2⟩ := (Rz0 hl).mp h
    refine ⟨j, by rwa [blk_nB ha] at j1, ?_⟩
    rw [e, j2, List.flatten_append, blk_take j1, blk_drop hk (by omega)]
  · rintro ⟨j, j1, j2⟩
    have j1 : j ≤ (blk k a).length := by rw [blk_nB ha]; exact j1
    exact ⟨_, (Rz0 hl).mpr ⟨j, j1, rfl⟩, by rw [j2, List.flatten_append, blk_take j1, blk_drop hk (by omega)]⟩
theorem part_two {S : List (List Nat)} {t : Nat} (h : t + 1 < S.length) {down : Bool} : part S t (t + 1) down = if down then [S.getD (t + 1) [], S.getD t []] else [S.getD t [], S.getD (t + 1) []] := by
  have e : (S.drop t).take (t + 1 + 1 - t) = [S.getD t [], S.getD (t + 1) []] := by
    rw [show t + 1 + 1 - t = 2 by omega, List.drop_eq_getElem_cons (show t < S.length by omega), List.drop_eq_getElem_cons h, getD_at (show t < S.length by omega), getD_at h]; rfl
  unfold part
  rw [e]; rfl
theorem nB_one {k L : Nat} (h : L ≤ k) (hk : 1 ≤ k) : nB k L ≤ 1 := Nat.lt_succ_iff.mp (Nat.div_lt_of_lt_mul (by omega))
/-- one block is never torn -/
theorem torn_one {k L : Nat} (hk : 1 ≤ k) (h : nB k L ≤ 1) {S P : List (List Nat)} (hP : StsOk L P) (hs : ∀ s ∈ P, s ∈ S) : tornF k L S P = none := by
  cases e : tornF k L S P with
  | none => rfl
  | some c =>
    exfalso
    obtain ⟨⟨w, h1, h2⟩, h3⟩ := torn_some e
    obtain ⟨r1, r2⟩ := Rds_re hk hP h1
    rw [← h2] at r1 r2
    rw [colB_0] at h1
    obtain ⟨g1, g2⟩ := Rds_times h1
    apply h3
    cases w with
    | nil =>
      have hc : c = [] := h2
      subst hc
      have r1 : 0 = L := r1
      obtain ⟨s, P', rfl⟩ : ∃ s P', P = s :: P' := by
        cases P with
        | nil => have := hP.ne; simp at this
        | cons s P => exact ⟨s, P, rfl⟩
      have hs0 := (hP.s s List.mem_cons_self).1
      have : s = [] := List.eq_nil_of_length_eq_zero (by omega)
      rw [← this]; exact hs s List.mem_cons_self
    | cons x w =>
      rw [List.length_cons] at g1
      have hw : w = [] := List.eq_nil_of_length_eq_zero (by omega)
      subst hw
      obtain ⟨u, u1, u2⟩ := g2 0 x rfl
      have hum : P.getD u [] ∈ P := by rw [getD_at u1]; exact List.getElem_mem u1
      have hl := (hP.s _ hum).1
      have hb := blk_nB (k := k) hl
      have hf := blk_flat hk (P.getD u [])
      have hx : x = P.getD u [] := by
        cases eb : blk k (P.getD u []) with
        | nil => rw [eb] at hb; simp at hb; omega
        | cons y r =>
          rw [eb, List.length_cons] at hb
          have hr : r = [] := List.eq_nil_of_length_eq_zero (by omega)
          subst hr
          rw [eb] at hf
          rw [u2]
          unfold bAt
          rw [eb, ← hf]; simp
      have hc : c = x := by rw [h2]; simp
      rw [hc, hx]; exact hs _ hum
theorem seen_val {L : Nat} {S : List (List Nat)} (hS : StsOk L S) {n : Int} (hn : SzOk n) (hn2 : n ≤ 1000) {t : Nat} (ht : t + 1 < S.length) {back : Bool} : m_law_seen (S.map mk) n back (t : Int) = .ok (tb n.toNat L S back t (t + 1)) := by
  have hk : 1 ≤ n.toNat := by have := hn.1; omega
  have hL := hS.l
  have hSn := hS.n
  obtain ⟨k, rfl⟩ := Int.eq_ofNat_of_zero_le (show 0 ≤ n by have := hn.1; omega)
  simp only [Int.toNat_natCast] at hk ⊢
  have hnb := nB_le (L := L) hk
  obtain ⟨ha, ta⟩ := hS.s _ (by rw [getD_at (by omega)]; exact List.getElem_mem _ : S.getD t [] ∈ S)
  obtain ⟨hb, tB⟩ := hS.s _ (by rw [getD_at ht]; exact List.getElem_mem _ : S.getD (t + 1) [] ∈ S)
  have hpt := part_two ht (down := back)
  unfold m_law_seen tb
  rw [map_at (d := []) (by omega), bind_ok, show (t : Int) + (1 : Int) = ((t + 1 : Nat) : Int) by omega, map_at (d := []) ht, bind_ok]
  have hti := torn_iff hk (S := S) (part_ok hS (f := t) (l := t + 1) (down := back) (by omega) ht)
  rw [hpt] at hti ⊢
  generalize S.getD t [] = a at *
  generalize S.getD (t + 1) [] = b at *
  have ha1 : (mk a).length ≤ 1000000 := by rw [mk_len]; omega
  have hb1 : (mk b).length ≤ 1000000 := by rw [mk_len]; omega
  rw [plenS_mk ha1, signs_mk, bind_ok, ha, show (L : Int) + (k : Int) = ((L + k : Nat) : Int) by omega, guard_ok (rng3B_of (by omega) hn), bind_ok]
  have hcnt : Int.toNat ((((L + k : Nat) : Int) - (0 : Int) + (k : Int) - 1) / (k : Int)) = nB k L + 1 := by
    have e : (((L + k : Nat) : Int) - (0 : Int) + (k : Int) - 1) = ((L + k - 1 + k : Nat) : Int) := by omega
    rw [e, ← Int.natCast_ediv, Int.toNat_natCast, Nat.add_div_right _ (by omega)]; rfl
  rw [hcnt, forR_find (g := fun (x : Int) => if back then b.take x.toNat ++ a.drop x.toNat else a.take x.toNat ++ b.drop x.toNat) (p := fun c => decide (c ∉ S)) (r := fun _ => true) fun x hx => by
    have hx0 : 0 ≤ x := by
      unfold rangeC at hx
      obtain ⟨i, _, rfl⟩ := List.mem_map.mp hx
      rw [Int.zero_add, ← Int.natCast_mul]; omega
    obtain ⟨i, rfl⟩ := Int.eq_ofNat_of_zero_le hx0
    have c1 : ∀ {a b : List Nat} {i : Nat}, a.length = L → b.length = L → pcat (mk (a.take i)) (mk (b.drop i)) = .ok (mk (a.take i ++ b.drop i)) := fun h1 h2 => pcat_mk (by rw [mk_len, mk_len, List.length_take, List.length_drop]; omega)
    rw [pslS_mk ha1, signs_mk, cutD_to, bind_ok, pslS_mk hb1, signs_mk, cutD_from, bind_ok, c1 ha hb, bind_ok, pslS_mk hb1, signs_mk, cutD_to, bind_ok, pslS_mk ha1, signs_mk, cutD_from, bind_ok, c1 hb ha, bind_ok, Int.toNat_natCast]
    have e : (cond back (Res.ok (mk (b.take i ++ a.drop i))) (Res.ok (mk (a.take i ++ b.drop i)))) = .ok (mk (if back then b.take i ++ a.drop i else a.take i ++ b.drop i)) := by cases back <;> rfl
    rw [e, bind_ok]
    have hct : TxtS (if back then b.take i ++ a.drop i else a.take i ++ b.drop i) := by
      cases back with
      | true => exact txt_app (txt_take tB) (txt_drop ta)
      | false => exact txt_app (txt_take ta) (txt_drop tB)
    rw [pinS hct fun s hs => (hS.s s hs).2, bind_ok]
    generalize (if back then b.take i ++ a.drop i else a.take i ++ b.drop i) = c
    by_cases g : c ∈ S
    · rw [decide_eq_true g, decide_eq_false (by simpa using g)]; rfl
    · rw [decide_eq_false g, decide_eq_true g]; rfl, bind_ok]
  generalize hfo : List.find? _ _ = o
  refine Eq.trans (b := Res.ok o.isSome) (by cases o <;> rfl) ?_
  congr 1
  rw [Bool.eq_iff_iff, hti, ← hfo]
  have key : ∀ c, Cp k L (if back then [b, a] else [a, b]) c ↔ ∃ j, j ≤ nB k L ∧ c = if back then b.take (j * k) ++ a.drop (j * k) else a.take (j * k) ++ b.drop (j * k) := fun c => by
    cases back with
    | true => rw [if_pos rfl, cp_two hk hb ha]; simp
    | false => rw [if_neg (by decide), cp_two hk ha hb]; simp
  constructor
  · intro h
    obtain ⟨c, hc⟩ := Option.isSome_iff_exists.mp h
    have h1 := List.find?_some hc
    have h2 := List.mem_of_find?_eq_some hc
    obtain ⟨x, hx, e⟩ := List.mem_map.mp h2
    unfold rangeC at hx
    obtain ⟨j, hj, rfl⟩ := List.mem_map.mp hx
    have hj := List.mem_range.mp hj
    refine ⟨c, (key c).mpr ⟨j, by omega, ?_⟩, of_decide_eq_true h1⟩
    rw [← e, show (0 + (j : Int) * (k : Int)).toNat = j * k by rw [Int.zero_add, ← Int.natCast_mul, Int.toNat_natCast]]
  · rintro ⟨c, hc, hn⟩
    obtain ⟨j, j1, e⟩ := (key c).mp hc
    rw [List.find?_isSome]
    refine ⟨c, List.mem_map.mpr ⟨0 + (j : Int) * (k : Int), ?_, ?_⟩, decide_eq_true hn⟩
    · unfold rangeC; exact List.mem_map.mpr ⟨j, List.mem_range.mpr (by omega), rfl⟩
    · rw [e, show (0 + (j : Int) * (k : Int)).toNat = j * k by rw [Int.zero_add, ← Int.natCast_mul, Int.toNat_natCast]]
theorem eqOL {hn : ∀ a, PyData.eqv ((pyL pyI).py a) .none = false ∧ PyData.eqv .none ((pyL pyI).py a) = false} {a b : Option (List Int)} : peq (pyO (pyL pyI) hn).ok a b = .ok (decide (a = b)) := by
  refine peq_ok ?_ ?_
  · cases a with
    | none => rfl
    | some a => exact okI_L
  · cases b with
    | none => rfl
    | some a => exact okI_L
theorem pin_ok {α : Type} [DecidableEq α] {ok : α → Bool} {a : α} {xs : List α} (h1 : ok a = true) (h2 : xs.all ok = true) : pinL ok a xs = .ok (decide (a ∈ xs)) := guard_ok ⟨h1, h2⟩
theorem pin_true {α : Type} [DecidableEq α] {ok : α → Bool} {a : α} {xs : List α} (h1 : ok a = true) (h2 : xs.all ok = true) (hm : a ∈ xs) : pinL ok a xs = .ok true := (pin_ok h1 h2).trans (congrArg Res.ok (decide_eq_true hm))
theorem pinI {x : Int} {xs : List Int} : pinL pyI.ok x xs = .ok (decide (x ∈ xs)) := guard_ok ⟨rfl, List.all_eq_true.mpr fun _ _ => rfl⟩
theorem copy2_val {l : List Nat} {ws : List Wr} (h : HistOk l ws) {n : Int} (hn : SzOk n) {f u : Nat} (h1 : f ≤ u) (h2 : u ≤ ws.length) {down : Bool} : m_torn_copy__v2 (hisV l ws) n (f : Int) (u : Int) down = .ok ((tornF n.toNat l.length (sts l ws) (part (sts l ws) f u down)).map mk) := by
  have hm := h.m
  have hsl : (sts l ws).length = ws.length + 1 := sts_len
  unfold m_torn_copy__v2
  rw [asked_val hn, bind_ok, his_len_val (by omega), bind_ok, within_val (by omega) (by omega), bind_ok, bind_ok, within_val (by omega) (by omega), bind_ok, states_val h, bind_ok, bind_ok, torn_val (sts_ok h) hn h1 (by omega)]; rfl
theorem right_val {l : List Nat} {ws : List Wr} (h : HistOk l ws) {n : Int} (hn : SzOk n) (hn2 : n ≤ 1000) {back : Bool} : m_law_right (hisV l ws) ((sts l ws).map mk) n back = .ok true := by
  have hm := h.m
  have hsl : (sts l ws).length = ws.length + 1 := sts_len
  have hS := sts_ok h
  have el : (((sts l ws).map mk).length : Int) - (1 : Int) = (ws.length : Int) := by rw [List.length_map]; omega
  unfold m_law_right
  rw [el, guard_ok (show small62 (ws.length : Int) from small62_of (by omega) (by omega)), bind_ok, Int.toNat_natCast, compR_filter (fun x => tb n.toNat l.length (sts l ws) back x.toNat (x.toNat + 1)) (by rw [rangeL_length, sz]; omega) fun x hx => by
    have := mem_rangeL.mp hx
    obtain ⟨t, rfl⟩ := Int.eq_ofNat_of_zero_le this.1
    rw [seen_val hS hn hn2 (by omega), bind_ok, Int.toNat_natCast]
    cases tb n.toNat l.length (sts l ws) back t (t + 1) <;> rfl, bind_ok, holds_val h hn, bind_ok, bind_ok, windows_val h hn]
  have loop : ∀ xs : List Int, (∀ x : Int, 0 ≤ x → x < (ws.length : Int) → (x ∈ xs ↔ tb n.toNat l.length (sts l ws) back x.toNat (x.toNat + 1) = true)) → forR (ρ := Bool) (fun (s6 : Unit) x7 => (m_torn_copy__v2 (hisV l ws) n x7 (x7 + (1 : Int)) back).bind fun z10 => (pinL pyI.ok x7 xs).bind fun z11 => cond (!decide ((!z10.isNone) = z11)) (Res.ok (Ctl.rt false)) (Res.ok (Ctl.nx ()))) (rangeL 0 ws.length) () = .ok (.nx ()) := fun xs hxs => by
    obtain ⟨s', e, _⟩ := forR_inv (f := (fun (s6 : Unit) x7 => (m_torn_copy__v2 (hisV l ws) n x7 (x7 + (1 : Int)) back).bind fun z10 => (pinL pyI.ok x7 xs).bind fun z11 => cond (!decide ((!z10.isNone) = z11)) (Res.ok (Ctl.rt false : Ctl Unit Bool)) (Res.ok (Ctl.nx ())))) (fun _ => True) (xs := rangeL 0 ws.length) (s := ()) trivial fun s x _ hx => by
      have hx := mem_rangeL.mp hx
      have hm := hxs x hx.1 (by omega)
      obtain ⟨t, rfl⟩ := Int.eq_ofNat_of_zero_le hx.1
      refine ⟨(), ?_, trivial⟩
      rw [Int.toNat_natCast] at hm
      rw [show (t : Int) + (1 : Int) = ((t + 1 : Nat) : Int) by omega, copy2_val h hn (by omega) (by omega), bind_ok, pinI, bind_ok, isN_map, Bool.not_not]
      have : (tornF n.toNat l.length (sts l ws) (part (sts l ws) t (t + 1) back)).isSome = decide ((t : Int) ∈ xs) := by
        rw [Bool.eq_iff_iff, decide_eq_true_eq]; exact hm.symm
      rw [this, decide_eq_true rfl]; rfl
    exact e
  have hmem : ∀ x : Int, 0 ≤ x → x < (ws.length : Int) → (x ∈ (rangeL 0 ws.length).filter (fun x => tb n.toNat l.length (sts l ws) back x.toNat (x.toNat + 1)) ↔ tb n.toNat l.length (sts l ws) back x.toNat (x.toNat + 1) = true) := fun x h0 h1 => by
    rw [List.mem_filter, mem_rangeL]
    exact ⟨fun h => h.2, fun h => ⟨⟨h0, by omega⟩, h⟩⟩
  have hlp := loop _ hmem
  rw [hlp, bind_ok, fin_nx, bind_ok]
  have e1 : (sts l ws).length - 1 = ws.length := by omega
  unfold partedF
  rw [e1]
  cases hf : List.find? (fun t => tb n.toNat l.length (sts l ws) back t (t + 1)) (List.range ws.length) with
  | some t =>
    have t1 := List.find?_some hf
    have t2 := List.mem_range.mp (List.mem_of_find?_eq_some hf)
    have hm : (t : Int) ∈ (rangeL 0 ws.length).filter (fun x => tb n.toNat l.length (sts l ws) back x.toNat (x.toNat + 1)) := (hmem t (by omega) (by omega)).mpr (by rw [Int.toNat_natCast]; exact t1)
    have hlen : ((rangeL 0 ws.length).filter (fun x => tb n.toNat l.length (sts l ws) back x.toNat (x.toNat + 1))).length ≤ ws.length := Nat.le_trans (List.length_filter_le _ _) (by rw [rangeL_length]; exact Nat.le_refl _)
    generalize (rangeL 0 ws.length).filter (fun x => tb n.toNat l.length (sts l ws) back x.toNat (x.toNat + 1)) = xs at hm hlen
    have hne : xs.isEmpty = false := by
      cases xs with
      | nil => simp at hm
      | cons x xs => rfl
    rw [hne]
    show cond (!decide (true = true)) _ (cond false _ _) = _
    rw [decide_eq_true rfl, Bool.not_true, cond_false, cond_false, compR_map (fun x => [(x, x + 1)]) (by rw [sz]; omega) fun _ _ => rfl, bind_ok]
    show (pinL (pyL (py2 pyI pyI)).ok ([(t, t + 1)].map wP) (xs.map fun x => [(x, x + 1)])).bind _ = _
    rw [pin_true (ok := (pyL (py2 pyI pyI)).ok) (a := [(t, t + 1)].map wP) (xs := xs.map fun x => [(x, x + 1)]) rfl (List.all_eq_true.mpr fun _ _ => List.all_eq_true.mpr fun _ _ => rfl) (List.mem_map.mpr ⟨(t : Int), hm, rfl⟩), bind_ok]
  | none =>
    have hnil : (rangeL 0 ws.length).filter (fun x => tb n.toNat l.length (sts l ws) back x.toNat (x.toNat + 1)) = [] := List.filter_eq_nil_iff.mpr fun x hx => by
      have hx := mem_rangeL.mp hx
      exact List.find?_eq_none.mp hf x.toNat (List.mem_range.mpr (by omega))
    rw [hnil]; rfl
theorem pst_zero {t : Nat → Nat → Bool} {m : Nat} (h : ∀ i, i < m → t 0 (i + 1) = false) : ∀ {i : Nat}, i ≤ m → pst t i = (0, [], [])
  | 0, _ => rfl
  | i + 1, hi => by
    unfold pst
    rw [pst_zero h (i := i) (by omega)]
    show (if t 0 (i + 1) = true then _ else _) = _
    rw [h i (by omega)]; rfl
theorem law_true (ns : List Int) (h : ns.length ≤ 63) : m_law ns = .ok true := by
  refine ok_eq ?_
  unfold m_law
  refine bi (spring_o (by decide)) fun z2 hp => ?_
  refine bi (sip_s hp (by decide) (by decide +kernel)) fun z4 ⟨a1, a2, hp⟩ => ?_
  refine bi (cells_o hp a1 (by omega)) fun z5 ⟨l, e5, hl, hc, hp⟩ => ?_
  rw [e5]
  have hl1 : (mk l).length ≤ 1000000 := by rw [mk_len]; omega
  refine be (plenS_mk hl1) ?_
  rw [signs_mk]
  refine bi (writes_o hp (by omega) (by decide) (by decide)) fun z7 ⟨ws, e7, hw, hwo, hp⟩ => ?_
  rw [e7]
  have hh : HistOk l ws := ⟨hc, by omega, hwo, by omega⟩
  have hS := sts_ok hh
  have hsl : (sts l ws).length = ws.length + 1 := sts_len
  refine be (file_ok (by omega) hc) ?_
  refine be (history_val hh) ?_
  refine be (law_states_val hh) ?_
  refine forO Spr hp (fun s x hp hx => ?_) fun s hp => ?_
  · refine bi (sip_s hp (by decide) (by decide +kernel)) fun z15 ⟨b1, b2, hp⟩ => ?_
    refine bi (pix_of b1 b2 (P := fun z => 1 ≤ z ∧ z ≤ 60) (by decide)) fun z16 hz => ?_
    refine bi (sip_s hp (by omega) (by omega)) fun z17 ⟨c1, c2, hp⟩ => ?_
    refine forO (fun _ => True) trivial (fun _ y _ _ => ?_) fun _ _ => nxO hp
    refine be (right_val hh (szOk_of (by omega) (by omega)) (by omega)) ?_
    exact cT rfl (nxO trivial)
  · refine be (plenS_mk hl1) ?_
    rw [signs_mk]
    refine bi (sip_s hp (by decide) (by decide +kernel)) fun z31 ⟨b1, b2, hp⟩ => ?_
    refine bi (pix_of b1 b2 (P := fun z => 1 ≤ z ∧ z ≤ 10 ^ 38) (by decide +kernel)) fun z32 hz => ?_
    have hz2 : z32 ≤ 100000000000000000000000000000000000000 := hz.2
    refine bi (sip_s hp (by omega) (Int.le_trans hz2 (by decide +kernel))) fun z33 ⟨c1, c2, hp⟩ => ?_
    have hsz : SzOk (max (1 : Int) (l.length : Int) + z33.1) := ⟨by omega, by omega⟩
    have hk2 : l.length ≤ (max (1 : Int) (l.length : Int) + z33.1).toNat := by omega
    generalize max (1 : Int) (l.length : Int) + z33.1 = n at hsz hk2
    have hk : 1 ≤ n.toNat := by have := hsz.1; omega
    have hno : ∀ f u, f ≤ u → u < (sts l ws).length → tornF n.toNat l.length (sts l ws) (part (sts l ws) f u false) = none := fun f u h1 h2 => torn_one hk (nB_one hk2 hk) (part_ok hS h1 h2) fun s hs => part_mem hs
    have hpt : partedF n.toNat l.length (sts l ws) false = (some [], []) := by
      have hf : List.find? (fun t => tb n.toNat l.length (sts l ws) false t (t + 1)) (List.range ((sts l ws).length - 1)) = none := List.find?_eq_none.mpr fun t ht => by
        have := List.mem_range.mp ht
        unfold tb
        rw [hno t (t + 1) (by omega) (by omega)]; decide
      unfold partedF
      rw [hf]
      have := pst_zero (t := tb n.toNat l.length (sts l ws) false) (m := (sts l ws).length - 1) (fun i hi => by unfold tb; rw [hno 0 (i + 1) (by omega) (by omega)]; rfl) (i := (sts l ws).length - 1) (Nat.le_refl _)
      rw [this]
    refine be (holds_val hh hsz) ?_
    rw [hpt]
    refine be eqOL ?_
    refine cF rfl ?_
    refine be (windows_val hh hsz) ?_
    rw [hpt]
    refine cF rfl ?_
    refine be (a := none) ?_ rfl
    unfold m_torn_copy
    rw [asked_val hsz, bind_ok, his_len_val (by omega), bind_ok, within_val (by omega) (by omega), bind_ok, states_val hh, bind_ok, bind_ok, bind_ok]
    have := torn_val hS hsz (f := 0) (l := ws.length) (by omega) (by omega) (down := false)
    have this : m_torn_within ((sts l ws).map mk) n (0 : Int) (ws.length : Int) false = _ := this
    rw [this, hno 0 ws.length (by omega) (by omega)]; rfl
theorem law_ok (ns : List Int) (h : ns.length ≤ 63) : (m_law ns).Out (fun r => r = true) (fun _ => False) := by
  rw [law_true ns h]; rfl
end Kh

set_option Elab.async false
set_option linter.all false
set_option maxRecDepth 100000
set_option maxHeartbeats 4000000
namespace Kh
open PySem PySem.Spec L2
open PySem.W (Frag)
section
variable {w : World} {K : Frag} {mg : Str → Option Value} {base : Heap}
theorem ok_law (R : Prg K mg) : FnOk PR w K mg base CX0 8 R.f_law R.d_law P_law (toSp K spLaw) := by
  refine fn_law false R.F_law sc_law (fun h => nomatch h) (fun ds M P E ⟨a, _, q, _⟩ => by rw [q]; rfl) fun cdv A outer s H hr ds M Pd PE h => ?_
  obtain ⟨a_script, hlen, rfl, rfl, hp⟩ := h
  have hu := hr.units
  have h : (m_law a_script).Out (fun r => Pd (.bl r) []) (fun _ => False) := out_mono (law_ok a_script hlen) (fun r e => by rw [show r = true from e]; exact hp) (fun _ h => h)
  refine WS.ends ?_
  refine ws_set <| ex_callF (ok_law_spring R) (hr.mono (by decide)) R.m_law_spring R.F_law_spring R.b_law_spring <| ea_cons <| ex_var ⟨rfl, rfl⟩ <| ea_cons <| ex_int <| ea_nil <| ⟨a_script, (0 : Int), rfl, outG (ob h) (fun z2 h => fun q3 => (UpP.mk (?_))) (fun _ h => dX [] h)⟩
  refine ws_set <| ex_callA (ok_law_cells R) (hr.mono (by decide)) R.m_law_cells R.F_law_cells R.b_law_cells <| ea_cons <| ex_var ⟨rfl, rfl⟩ <| ea_cons <| ex_callA (ok_law_sip R) (hr.mono (by decide)) R.m_law_sip R.F_law_sip R.b_law_sip <| ea_cons <| ex_var ⟨rfl, rfl⟩ <| ea_cons <| ex_int <| ea_nil <| apC [] ⟨_, z2, (31 : Int), rfl, rfl, outC1 (ob h) (fun z4 h => ea_nil <| apC [] ⟨_, z4.2, z4.1, rfl, rfl, outC1 (ob h) (fun z5 h => ?_) (fun _ h => h)⟩) (fun _ h => h)⟩
  refine ws_set <| ex_callA (ok_law_writes R) (hr.mono (by decide)) R.m_law_writes R.F_law_writes R.b_law_writes <| ea_cons <| ex_var ⟨rfl, rfl⟩ <| ea_cons <| ex_callB R.n_len PyProof.Rows.Boot.«len» <| ea_cons <| ex_var ⟨rfl, rfl⟩ <| ea_nil <| r_lenS (ob h) fun z6 h => ea_cons <| ex_int <| ea_nil <| apC [] ⟨_, z5.2, z6, (16 : Int), rfl, rfl, outC1 (ob h) (fun z7 h => ?_) (fun _ h => h)⟩
  refine ws_par <| ea_cons <| ex_make R.K_History (ok_History_init R) (hr.mono (by decide)) R.mc_History R.b_History_init .nil (fun _ => .nil) <| ea_cons <| ex_make R.K_File (ok_File_init R) (hr.mono (by decide)) R.mc_File R.b_File_init .nil (fun _ => .nil) <| ea_cons <| ex_var ⟨rfl, rfl⟩ <| ea_nil <| fun q dx _ _ _ => mk_File (ob h) (fun z8 h => ea_cons <| ex_var ⟨rfl, rfl⟩ <| ea_nil <| fun q dx _ _ _ => mk_History (ob h) (fun z9 h => ea_cons <| ex_callF (ok_law_states R) (hr.mono (by decide)) R.m_law_states R.F_law_states R.b_law_states <| ea_cons <| ex_var ⟨rfl, rfl⟩ <| ea_cons <| ex_var ⟨rfl, rfl⟩ <| ea_nil <| ⟨z5.1, z7.1, rfl, outU (ob h) (fun z10 h => ea_nil ⟨_, _, rfl, ?_⟩) (fun _ h => dX [_] h)⟩) (fun _ h => dX [_, _] h)) (fun _ h => dX [_, _] h)
  refine ws_forT <| ei_rng1 R.n_range <| ex_int <| ⟨(2 : Int), rfl, by decide, forT Dat.int (xs := (rangeL 0 (Int.toNat (2 : Int)))) (fun (s11 : (List Int)) τ M' => ∃ d6 d7 d8 d9, [some (.scr a_script), some (.raw (.ref q3)), some (.str z5.1), some ((lstD (pairD Dat.int Dat.str)) z7.1), some ((historyD R) z9), some ((lstD Dat.str) z10), d6, d7, d8, d9] = τ ∧ (q3, .lst (s11.map Dat.int)) :: [] = M') (ob h) ⟨_, _, _, _, rfl, rfl⟩ (fun _ _ _ _ => trivial) ?g28 ?g29⟩
  case g28 =>
    rintro x12 s11 _ _ N ⟨d6, d7, d8, d9, rfl, rfl⟩ h hrt13
    refine gx_name  <| ?_
    refine ws_set <| ex_bin <| ex_int <| ex_callA (ok_law_sip R) (hr.mono (by decide)) R.m_law_sip R.F_law_sip R.b_law_sip <| ea_cons <| ex_var ⟨rfl, rfl⟩ <| ea_cons <| ex_ix <| ex_lst <| ea_cons <| ex_int <| ea_cons <| ex_int <| ea_cons <| ex_int <| ea_nil ⟨ln, ex_callA (ok_law_sip R) (hr.mono (by decide)) R.m_law_sip R.F_law_sip R.b_law_sip <| ea_cons <| ex_var ⟨rfl, rfl⟩ <| ea_cons <| ex_int <| ea_nil <| apC [] ⟨_, s11, (3 : Int), rfl, rfl, outC1 (ob h) (fun z15 h => r_ix Dat.int (xs := ([(3 : Int), (9 : Int), (20 : Int)] : List Int)) (ob h) fun z16 h => ea_nil <| apC [] ⟨_, z15.2, z16, rfl, rfl, outC1 (ob h) (fun z17 h => o_add <| ?_) (fun _ h => h)⟩) (fun _ h => h)⟩⟩
    refine ws_forT <| ei_list <| ex_lst <| ea_cons <| ex_bl <| ea_cons <| ex_bl <| ea_nil ⟨ln, ⟨_, rfl, forT Dat.bl (xs := ([false, true] : List Bool)) (fun (s18 : Unit) τ M' => ∃ d8 d9, [some (.scr a_script), some (.raw (.ref q3)), some (.str z5.1), some ((lstD (pairD Dat.int Dat.str)) z7.1), some ((historyD R) z9), some ((lstD Dat.str) z10), some (.int x12), some (.int ((1 : Int) + z17.1)), d8, d9] = τ ∧ (q3, .lst (z17.2.map Dat.int)) :: [] = M') (ob h) ⟨_, _, rfl, rfl⟩ (fun _ _ _ _ => trivial) ?g25 ?g26⟩⟩
    case g25 =>
      rintro x19 s18 _ _ N ⟨d8, d9, rfl, rfl⟩ h hrt20
      refine gx_name  <| ?_
      refine ws_if <| et_not <| et_val <| ex_callF (ok_law_right R) (hr.mono (by decide)) R.m_law_right R.F_law_right R.b_law_right <| ea_cons <| ex_var ⟨rfl, rfl⟩ <| ea_cons <| ex_var ⟨rfl, rfl⟩ <| ea_cons <| ex_var ⟨rfl, rfl⟩ <| ea_cons <| ex_var ⟨rfl, rfl⟩ <| ea_nil <| ⟨z9, z10, ((1 : Int) + z17.1), x19, rfl, outU (ob h) (fun z22 h => ⟨_, rfl, cifN h (fun h => ?g24) (fun h => ?g23)⟩) (fun _ h => dX [_] h)⟩
      case g23 =>
        exact ws_ret <| ex_bl <| (dN [_] (hrt13 _ (hrt20 _ h)))
      case g24 =>
        refine ws_nil ?_
        exact ws_nil ⟨(), ⟨_, _, rfl, rfl⟩, h⟩
    case g26 =>
      rintro s18 _ _ ⟨d8, d9, rfl, rfl⟩ h
      replace h := finO h
      exact ws_nil ⟨z17.2, ⟨_, _, _, _, rfl, rfl⟩, h⟩
  case g29 =>
    rintro s11 _ _ ⟨d6, d7, d8, d9, rfl, rfl⟩ h
    replace h := finO h
    refine ws_set <| ex_bin <| ex_callB R.n_max PyProof.Rows.Boot.«max» <| ea_cons <| ex_int <| ea_cons <| ex_callB R.n_len PyProof.Rows.Boot.«len» <| ea_cons <| ex_var ⟨rfl, rfl⟩ <| ea_nil <| r_lenS (ob h) fun z30 h => ea_nil <| c_maxT <| ex_callA (ok_law_sip R) (hr.mono (by decide)) R.m_law_sip R.F_law_sip R.b_law_sip <| ea_cons <| ex_var ⟨rfl, rfl⟩ <| ea_cons <| ex_ix <| ex_lst <| ea_cons <| ex_int <| ea_cons <| ex_bin <| ex_int <| ex_int <| o_powW (by decide +kernel) <| ea_nil ⟨ln, ex_callA (ok_law_sip R) (hr.mono (by decide)) R.m_law_sip R.F_law_sip R.b_law_sip <| ea_cons <| ex_var ⟨rfl, rfl⟩ <| ea_cons <| ex_int <| ea_nil <| apC [] ⟨_, s11, (2 : Int), rfl, rfl, outC1 (ob h) (fun z31 h => r_ix Dat.int (xs := ([(5 : Int), ((10 : Int) ^ Int.toNat (38 : Int))] : List Int)) (ob h) fun z32 h => ea_nil <| apC [] ⟨_, z31.2, z32, rfl, rfl, outC1 (ob h) (fun z33 h => o_add <| ?_) (fun _ h => h)⟩) (fun _ h => h)⟩⟩
    refine ws_if <| et_w <| ew_or <| et_cmp <| ex_callK (ok_holds R) (hr.mono (by decide)) R.m_holds R.F_holds.kp R.kb_holds_2_ <| ea_cons <| ex_var ⟨rfl, rfl⟩ <| ea_cons <| ex_var ⟨rfl, rfl⟩ <| ea_nil ⟨rfl, ek_nil ⟨rfl, ⟨z9, ((max (1 : Int) z30) + z33.1), false, rfl, outU (ob h) (fun z34 h => ex_lst <| ea_nil ⟨ln, r_neD (pyO (pyL pyI) (fun _ => ⟨rfl, rfl⟩)) z34 (some ([] : (List Int))) hu (ob h) fun z35 h => ⟨_, rfl, cif h (fun h => ⟨fun _ => ?g36, fun z => nomatch z⟩) (fun h => ew_or1 <| et_cmp <| ex_callK (ok_windows R) (hr.mono (by decide)) R.m_windows R.F_windows.kp R.kb_windows_2_ <| ea_cons <| ex_var ⟨rfl, rfl⟩ <| ea_cons <| ex_var ⟨rfl, rfl⟩ <| ea_nil ⟨rfl, ek_nil ⟨rfl, ⟨z9, ((max (1 : Int) z30) + z33.1), false, rfl, outU (ob h) (fun z37 h => ex_lst <| ea_nil ⟨ln, r_neNilT (pairD Dat.int Dat.int) hu <| ⟨_, rfl, cif h (fun h => ?g38) (fun h => ?g40)⟩⟩) (fun _ h => dX [_] h)⟩⟩⟩)⟩⟩) (fun _ h => dX [_] h)⟩⟩⟩
    case g36 =>
      exact ws_ret <| ex_bl <| (dN [_] h)
    case g38 =>
      exact ws_ret <| ex_bl <| (dN [_] h)
    case g40 =>
      refine ws_nil ?_
      exact ws_ret <| ex_cmp <| ex_callK (ok_torn_copy R) (hr.mono (by decide)) R.m_torn_copy R.F_torn_copy.kp R.kb_torn_copy_2_ <| ea_cons <| ex_var ⟨rfl, rfl⟩ <| ea_cons <| ex_var ⟨rfl, rfl⟩ <| ea_nil ⟨rfl, ek_nil ⟨rfl, ⟨z9, ((max (1 : Int) z30) + z33.1), (0 : Int), (), false, rfl, outU (ob h) (fun z39 h => ex_non <| o_isNT Dat.str (fun _ => ⟨rfl, fun _ z => nomatch z⟩) <| (dN [_] h)) (fun _ h => dX [_] h)⟩⟩⟩
end
end Kh

set_option Elab.async false
set_option linter.all false
set_option maxRecDepth 100000
set_option pp.maxSteps 60
set_option maxHeartbeats 2000000
namespace Kh
open PySem PySem.Spec L2
open PySem.W (Frag ksFn)
theorem all_mk {w : World} {K : Frag} {h : Heap} {mg : Str → Option Value} {fa : Addr} (X : K.In h) (G : h.Ns mainGlobals mg) (hfa : mg "law" = some (.ref fa))
    {tg_SIGNS : Tok} {C_File : Addr} {C_History : Addr} {f_is_whole : Addr} {od_is_whole an_is_whole : Option Addr} {sl_is_whole : Array (Option Value)} {oc_is_whole kV_is_whole dc_is_whole pm_is_whole cd_is_whole ct_is_whole : Value} {f_check_least : Addr} {od_check_least an_check_least : Option Addr} {sl_check_least : Array (Option Value)} {oc_check_least kV_check_least dc_check_least pm_check_least cd_check_least ct_check_least : Value} {f_check_within : Addr} {od_check_within an_check_within : Option Addr} {sl_check_within : Array (Option Value)} {oc_check_within kV_check_within dc_check_within pm_check_within cd_check_within ct_check_within : Value} {f_are_cells : Addr} {od_are_cells an_are_cells : Option Addr} {sl_are_cells : Array (Option Value)} {oc_are_cells kV_are_cells dc_are_cells pm_are_cells cd_are_cells ct_are_cells : Value} {f_is_content : Addr} {od_is_content an_is_content : Option Addr} {sl_is_content : Array (Option Value)} {oc_is_content kV_is_content dc_is_content pm_is_content cd_is_content ct_is_content : Value} {f_check_file : Addr} {od_check_file an_check_file : Option Addr} {sl_check_file : Array (Option Value)} {oc_check_file kV_check_file dc_check_file pm_check_file cd_check_file ct_check_file : Value} {f_blocks_of : Addr} {od_blocks_of an_blocks_of : Option Addr} {sl_blocks_of : Array (Option Value)} {oc_blocks_of kV_blocks_of dc_blocks_of pm_blocks_of cd_blocks_of ct_blocks_of : Value} {f_is_write : Addr} {od_is_write an_is_write : Option Addr} {sl_is_write : Array (Option Value)} {oc_is_write kV_is_write dc_is_write pm_is_write cd_is_write ct_is_write : Value} {f_check_write : Addr} {od_check_write an_check_write : Option Addr} {sl_check_write : Array (Option Value)} {oc_check_write kV_check_write dc_check_write pm_check_write cd_check_write ct_check_write : Value} {f_written : Addr} {od_written an_written : Option Addr} {sl_written : Array (Option Value)} {oc_written kV_written dc_written pm_written cd_written ct_written : Value} {f_check_history : Addr} {od_check_history an_check_history : Option Addr} {sl_check_history : Array (Option Value)} {oc_check_history kV_check_history dc_check_history pm_check_history cd_check_history ct_check_history : Value} {f_check_asked : Addr} {od_check_asked an_check_asked : Option Addr} {sl_check_asked : Array (Option Value)} {oc_check_asked kV_check_asked dc_check_asked pm_check_asked cd_check_asked ct_check_asked : Value} {f_columns_of : Addr} {od_columns_of an_columns_of : Option Addr} {sl_columns_of : Array (Option Value)} {oc_columns_of kV_columns_of dc_columns_of pm_columns_of cd_columns_of ct_columns_of : Value} {f_columns_along : Addr} {od_columns_along an_columns_along : Option Addr} {sl_columns_along : Array (Option Value)} {oc_columns_along kV_columns_along dc_columns_along pm_columns_along cd_columns_along ct_columns_along : Value} {f_readings : Addr} {od_readings an_readings : Option Addr} {sl_readings : Array (Option Value)} {oc_readings kV_readings dc_readings pm_readings cd_readings ct_readings : Value} {f_counts_of : Addr} {od_counts_of an_counts_of : Option Addr} {sl_counts_of : Array (Option Value)} {oc_counts_of kV_counts_of dc_counts_of pm_counts_of cd_counts_of ct_counts_of : Value} {f_content_of : Addr} {od_content_of an_content_of : Option Addr} {sl_content_of : Array (Option Value)} {oc_content_of kV_content_of dc_content_of pm_content_of cd_content_of ct_content_of : Value} {f_torn_within : Addr} {od_torn_within an_torn_within : Option Addr} {sl_torn_within : Array (Option Value)} {oc_torn_within kV_torn_within dc_torn_within pm_torn_within cd_torn_within ct_torn_within : Value} {f_torn_copy : Addr} {od_torn_copy an_torn_copy : Option Addr} {sl_torn_copy : Array (Option Value)} {T_torn_copy : Addr} {ocT_torn_copy : Value} {odT_torn_copy : Option Addr} {nT_torn_copy : Nat} {slT_torn_copy : Array (Option Value)} {tk0_torn_copy : Tok} {oc_torn_copy dc_torn_copy pm_torn_copy cd_torn_copy ct_torn_copy : Value} {KD_torn_copy : Addr} {f_parted : Addr} {od_parted an_parted : Option Addr} {sl_parted : Array (Option Value)} {oc_parted kV_parted dc_parted pm_parted cd_parted ct_parted : Value} {f_holds : Addr} {od_holds an_holds : Option Addr} {sl_holds : Array (Option Value)} {oc_holds dc_holds pm_holds cd_holds ct_holds : Value} {KD_holds : Addr} {f_windows : Addr} {od_windows an_windows : Option Addr} {sl_windows : Array (Option Value)} {oc_windows dc_windows pm_windows cd_windows ct_windows : Value} {KD_windows : Addr} {f_law_spring : Addr} {od_law_spring an_law_spring : Option Addr} {sl_law_spring : Array (Option Value)} {oc_law_spring kV_law_spring dc_law_spring pm_law_spring cd_law_spring ct_law_spring : Value} {f_law_sip : Addr} {od_law_sip an_law_sip : Option Addr} {sl_law_sip : Array (Option Value)} {oc_law_sip kV_law_sip dc_law_sip pm_law_sip cd_law_sip ct_law_sip : Value} {f_law_cells : Addr} {od_law_cells an_law_cells : Option Addr} {sl_law_cells : Array (Option Value)} {oc_law_cells kV_law_cells dc_law_cells pm_law_cells cd_law_cells ct_law_cells : Value} {f_law_text : Addr} {od_law_text an_law_text : Option Addr} {sl_law_text : Array (Option Value)} {oc_law_text kV_law_text dc_law_text pm_law_text cd_law_text ct_law_text : Value} {f_law_writes : Addr} {od_law_writes an_law_writes : Option Addr} {sl_law_writes : Array (Option Value)} {oc_law_writes kV_law_writes dc_law_writes pm_law_writes cd_law_writes ct_law_writes : Value} {f_law_states : Addr} {od_law_states an_law_states : Option Addr} {sl_law_states : Array (Option Value)} {oc_law_states kV_law_states dc_law_states pm_law_states cd_law_states ct_law_states : Value} {f_law_seen : Addr} {od_law_seen an_law_seen : Option Addr} {sl_law_seen : Array (Option Value)} {oc_law_seen kV_law_seen dc_law_seen pm_law_seen cd_law_seen ct_law_seen : Value} {f_law_right : Addr} {od_law_right an_law_right : Option Addr} {sl_law_right : Array (Option Value)} {oc_law_right kV_law_right dc_law_right pm_law_right cd_law_right ct_law_right : Value} {f_law : Addr} {od_law an_law : Option Addr} {sl_law : Array (Option Value)} {oc_law kV_law dc_law pm_law cd_law ct_law : Value} {f_File_init : Addr} {od_File_init an_File_init : Option Addr} {sl_File_init : Array (Option Value)} {oc_File_init kV_File_init dc_File_init pm_File_init cd_File_init ct_File_init : Value} {T_File_init : Addr} {ocT_File_init : Value} {odT_File_init : Option Addr} {nT_File_init : Nat} {slT_File_init : Array (Option Value)} {tk0_File_init : Tok} {f_File_cells : Addr} {od_File_cells an_File_cells : Option Addr} {sl_File_cells : Array (Option Value)} {oc_File_cells kV_File_cells dc_File_cells pm_File_cells cd_File_cells ct_File_cells : Value} {pr_File_cells : Addr} {rs_File_cells : List Value} {f_File_content : Addr} {od_File_content an_File_content : Option Addr} {sl_File_content : Array (Option Value)} {oc_File_content kV_File_content dc_File_content pm_File_content cd_File_content ct_File_content : Value} {pr_File_content : Addr} {rs_File_content : List Value} {f_File_len : Addr} {od_File_len an_File_len : Option Addr} {sl_File_len : Array (Option Value)} {oc_File_len kV_File_len dc_File_len pm_File_len cd_File_len ct_File_len : Value} {f_File_iter : Addr} {od_File_iter an_File_iter : Option Addr} {sl_File_iter : Array (Option Value)} {oc_File_iter kV_File_iter dc_File_iter pm_File_iter cd_File_iter ct_File_iter : Value} {f_File_getitem : Addr} {od_File_getitem an_File_getitem : Option Addr} {sl_File_getitem : Array (Option Value)} {oc_File_getitem kV_File_getitem dc_File_getitem pm_File_getitem cd_File_getitem ct_File_getitem : Value} {f_File_eq : Addr} {od_File_eq an_File_eq : Option Addr} {sl_File_eq : Array (Option Value)} {oc_File_eq kV_File_eq dc_File_eq pm_File_eq cd_File_eq ct_File_eq : Value} {f_History_init : Addr} {od_History_init an_History_init : Option Addr} {sl_History_init : Array (Option Value)} {oc_History_init kV_History_init dc_History_init pm_History_init cd_History_init ct_History_init : Value} {T_History_init : Addr} {ocT_History_init : Value} {odT_History_init : Option Addr} {nT_History_init : Nat} {slT_History_init : Array (Option Value)} {f_History_file : Addr} {od_History_file an_History_file : Option Addr} {sl_History_file : Array (Option Value)} {oc_History_file kV_History_file dc_History_file pm_History_file cd_History_file ct_History_file : Value} {pr_History_file : Addr} {rs_History_file : List Value} {f_History_len : Addr} {od_History_len an_History_len : Option Addr} {sl_History_len : Array (Option Value)} {oc_History_len kV_History_len dc_History_len pm_History_len cd_History_len ct_History_len : Value} {f_History_iter : Addr} {od_History_iter an_History_iter : Option Addr} {sl_History_iter : Array (Option Value)} {oc_History_iter kV_History_iter dc_History_iter pm_History_iter cd_History_iter ct_History_iter : Value} {f_History_getitem : Addr} {od_History_getitem an_History_getitem : Option Addr} {sl_History_getitem : Array (Option Value)} {oc_History_getitem kV_History_getitem dc_History_getitem pm_History_getitem cd_History_getitem ct_History_getitem : Value} {f_History_iadd : Addr} {od_History_iadd an_History_iadd : Option Addr} {sl_History_iadd : Array (Option Value)} {oc_History_iadd kV_History_iadd dc_History_iadd pm_History_iadd cd_History_iadd ct_History_iadd : Value} {f_History_eq : Addr} {od_History_eq an_History_eq : Option Addr} {sl_History_eq : Array (Option Value)} {oc_History_eq kV_History_eq dc_History_eq pm_History_eq cd_History_eq ct_History_eq : Value} {f_History_states : Addr} {od_History_states an_History_states : Option Addr} {sl_History_states : Array (Option Value)} {oc_History_states kV_History_states dc_History_states pm_History_states cd_History_states ct_History_states : Value} {f_History_at : Addr} {od_History_at an_History_at : Option Addr} {sl_History_at : Array (Option Value)} {oc_History_at kV_History_at dc_History_at pm_History_at cd_History_at ct_History_at : Value} {f_History_copy : Addr} {od_History_copy an_History_copy : Option Addr} {sl_History_copy : Array (Option Value)} {oc_History_copy kV_History_copy dc_History_copy pm_History_copy cd_History_copy ct_History_copy : Value} {C_InvalidFile : Addr} {C_HoleError : Addr} {nm_InvalidFile q_InvalidFile : Str} {NN_InvalidFile I_InvalidFile cda_InvalidFile cc_InvalidFile : Addr} {bs_InvalidFile : List Value} {sn_InvalidFile : List Str} {sub_InvalidFile : List Value} {ab_InvalidFile : Bool} {col_InvalidFile : Option Bool} {dd_InvalidFile : Option Addr} {m0_InvalidFile m1_InvalidFile m2_InvalidFile m3_InvalidFile m5_InvalidFile : Option Value} {od_InvalidFile an_InvalidFile cdd_InvalidFile cld_InvalidFile : Option Addr} {sl_InvalidFile ccs_InvalidFile csl_InvalidFile : Array (Option Value)} {oc_InvalidFile ocT_InvalidFile kV_InvalidFile dc_InvalidFile pm_InvalidFile ct_InvalidFile ccl_InvalidFile cl_InvalidFile : Value} {T_InvalidFile : Addr} {odT_InvalidFile : Option Addr} {nT_InvalidFile : Nat} {slT_InvalidFile : Array (Option Value)} {vs_InvalidFile : Array Value} {file_InvalidFile : Str} {tf_InvalidFile : Tok} {C_InvalidNumber : Addr} {nm_InvalidNumber q_InvalidNumber : Str} {NN_InvalidNumber I_InvalidNumber cda_InvalidNumber cc_InvalidNumber : Addr} {bs_InvalidNumber : List Value} {sn_InvalidNumber : List Str} {sub_InvalidNumber : List Value} {ab_InvalidNumber : Bool} {col_InvalidNumber : Option Bool} {dd_InvalidNumber : Option Addr} {m0_InvalidNumber m1_InvalidNumber m2_InvalidNumber m3_InvalidNumber m5_InvalidNumber : Option Value} {od_InvalidNumber an_InvalidNumber cdd_InvalidNumber cld_InvalidNumber : Option Addr} {sl_InvalidNumber ccs_InvalidNumber csl_InvalidNumber : Array (Option Value)} {oc_InvalidNumber ocT_InvalidNumber kV_InvalidNumber dc_InvalidNumber pm_InvalidNumber ct_InvalidNumber ccl_InvalidNumber cl_InvalidNumber : Value} {T_InvalidNumber : Addr} {odT_InvalidNumber : Option Addr} {nT_InvalidNumber : Nat} {slT_InvalidNumber : Array (Option Value)} {vs_InvalidNumber : Array Value} {file_InvalidNumber : Str} {tf_InvalidNumber : Tok} {C_InvalidList : Addr} {nm_InvalidList q_InvalidList : Str} {NN_InvalidList I_InvalidList cda_InvalidList cc_InvalidList : Addr} {bs_InvalidList : List Value} {sn_InvalidList : List Str} {sub_InvalidList : List Value} {ab_InvalidList : Bool} {col_InvalidList : Option Bool} {dd_InvalidList : Option Addr} {m0_InvalidList m1_InvalidList m2_InvalidList m3_InvalidList m5_InvalidList : Option Value} {od_InvalidList an_InvalidList cdd_InvalidList cld_InvalidList : Option Addr} {sl_InvalidList ccs_InvalidList csl_InvalidList : Array (Option Value)} {oc_InvalidList ocT_InvalidList kV_InvalidList dc_InvalidList pm_InvalidList ct_InvalidList ccl_InvalidList cl_InvalidList : Value} {T_InvalidList : Addr} {odT_InvalidList : Option Addr} {nT_InvalidList : Nat} {slT_InvalidList : Array (Option Value)} {vs_InvalidList : Array Value} {file_InvalidList : Str} {tf_InvalidList : Tok} {C_InvalidWrite : Addr} {nm_InvalidWrite q_InvalidWrite : Str} {NN_InvalidWrite I_InvalidWrite cda_InvalidWrite cc_InvalidWrite : Addr} {bs_InvalidWrite : List Value} {sn_InvalidWrite : List Str} {sub_InvalidWrite : List Value} {ab_InvalidWrite : Bool} {col_InvalidWrite : Option Bool} {dd_InvalidWrite : Option Addr} {m0_InvalidWrite m1_InvalidWrite m2_InvalidWrite m3_InvalidWrite m5_InvalidWrite : Option Value} {od_InvalidWrite an_InvalidWrite cdd_InvalidWrite cld_InvalidWrite : Option Addr} {sl_InvalidWrite ccs_InvalidWrite csl_InvalidWrite : Array (Option Value)} {oc_InvalidWrite ocT_InvalidWrite kV_InvalidWrite dc_InvalidWrite pm_InvalidWrite ct_InvalidWrite ccl_InvalidWrite cl_InvalidWrite : Value} {T_InvalidWrite : Addr} {odT_InvalidWrite : Option Addr} {nT_InvalidWrite : Nat} {slT_InvalidWrite : Array (Option Value)} {vs_InvalidWrite : Array Value} {file_InvalidWrite : Str} {tf_InvalidWrite : Tok} {C_InvalidHistory : Addr} {nm_InvalidHistory q_InvalidHistory : Str} {NN_InvalidHistory I_InvalidHistory cda_InvalidHistory cc_InvalidHistory : Addr} {bs_InvalidHistory : List Value} {sn_InvalidHistory : List Str} {sub_InvalidHistory : List Value} {ab_InvalidHistory : Bool} {col_InvalidHistory : Option Bool} {dd_InvalidHistory : Option Addr} {m0_InvalidHistory m1_InvalidHistory m2_InvalidHistory m3_InvalidHistory m5_InvalidHistory : Option Value} {od_InvalidHistory an_InvalidHistory cdd_InvalidHistory cld_InvalidHistory : Option Addr} {sl_InvalidHistory ccs_InvalidHistory csl_InvalidHistory : Array (Option Value)} {oc_InvalidHistory ocT_InvalidHistory kV_InvalidHistory dc_InvalidHistory pm_InvalidHistory ct_InvalidHistory ccl_InvalidHistory cl_InvalidHistory : Value} {T_InvalidHistory : Addr} {odT_InvalidHistory : Option Addr} {nT_InvalidHistory : Nat} {slT_InvalidHistory : Array (Option Value)} {vs_InvalidHistory : Array Value} {file_InvalidHistory : Str} {tf_InvalidHistory : Tok}
    (z_ValueError : PySem.W.nsIn K mainGlobals "ValueError" = some none)
    (z_bool : PySem.W.nsIn K mainGlobals "bool" = some none)
    (z_enumerate : PySem.W.nsIn K mainGlobals "enumerate" = some none)
    (z_int : PySem.W.nsIn K mainGlobals "int" = some none)
    (z_isinstance : PySem.W.nsIn K mainGlobals "isinstance" = some none)
    (z_iter : PySem.W.nsIn K mainGlobals "iter" = some none)
    (z_len : PySem.W.nsIn K mainGlobals "len" = some none)
    (z_list : PySem.W.nsIn K mainGlobals "list" = some none)
    (z_max : PySem.W.nsIn K mainGlobals "max" = some none)
    (z_min : PySem.W.nsIn K mainGlobals "min" = some none)
    (z_property : PySem.W.nsIn K mainGlobals "property" = some none)
    (z_range : PySem.W.nsIn K mainGlobals "range" = some none)
    (z_sorted : PySem.W.nsIn K mainGlobals "sorted" = some none)
    (z_str : PySem.W.nsIn K mainGlobals "str" = some none)
    (z_sum : PySem.W.nsIn K mainGlobals "sum" = some none)
    (z_super : PySem.W.nsIn K mainGlobals "super" = some none)
    (z_tuple : PySem.W.nsIn K mainGlobals "tuple" = some none)
    (g_SIGNS : PySem.W.nsIn K mainGlobals "SIGNS" = some (some (.str "abcdefghijklmnopqrstuvwxyz" tg_SIGNS)))
    (ac_File : PySem.W.nsIn K mainGlobals "File" = some (some (.ref C_File)))
    (ac_History : PySem.W.nsIn K mainGlobals "History" = some (some (.ref C_History)))
    (a_is_whole : PySem.W.nsIn K mainGlobals "is_whole" = some (some (.ref f_is_whole)))
    (l_is_whole : K.lookup f_is_whole = some ⟨oc_is_whole, od_is_whole, .func (PySem.W.fnOf "is_whole" "is_whole" (defArgs s_is_whole) (defBody s_is_whole) (defScope s_is_whole) .none kV_is_whole dc_is_whole pm_is_whole an_is_whole cd_is_whole ct_is_whole), sl_is_whole⟩)
    (c_is_whole : PySem.W.codeIn K cd_is_whole "is_whole" = true)
    (k_is_whole : PySem.W.keepIn K (.ref f_is_whole) = true)
    (a_check_least : PySem.W.nsIn K mainGlobals "check_least" = some (some (.ref f_check_least)))
    (l_check_least : K.lookup f_check_least = some ⟨oc_check_least, od_check_least, .func (PySem.W.fnOf "check_least" "check_least" (defArgs s_check_least) (defBody s_check_least) (defScope s_check_least) .none kV_check_least dc_check_least pm_check_least an_check_least cd_check_least ct_check_least), sl_check_least⟩)
    (c_check_least : PySem.W.codeIn K cd_check_least "check_least" = true)
    (k_check_least : PySem.W.keepIn K (.ref f_check_least) = true)
    (a_check_within : PySem.W.nsIn K mainGlobals "check_within" = some (some (.ref f_check_within)))
    (l_check_within : K.lookup f_check_within = some ⟨oc_check_within, od_check_within, .func (PySem.W.fnOf "check_within" "check_within" (defArgs s_check_within) (defBody s_check_within) (defScope s_check_within) .none kV_check_within dc_check_within pm_check_within an_check_within cd_check_within ct_check_within), sl_check_within⟩)
    (c_check_within : PySem.W.codeIn K cd_check_within "check_within" = true)
    (k_check_within : PySem.W.keepIn K (.ref f_check_within) = true)
    (a_are_cells : PySem.W.nsIn K mainGlobals "are_cells" = some (some (.ref f_are_cells)))
    (l_are_cells : K.lookup f_are_cells = some ⟨oc_are_cells, od_are_cells, .func (PySem.W.fnOf "are_cells" "are_cells" (defArgs s_are_cells) (defBody s_are_cells) (defScope s_are_cells) .none kV_are_cells dc_are_cells pm_are_cells an_are_cells cd_are_cells ct_are_cells), sl_are_cells⟩)
    (c_are_cells : PySem.W.codeIn K cd_are_cells "are_cells" = true)
    (k_are_cells : PySem.W.keepIn K (.ref f_are_cells) = true)
    (a_is_content : PySem.W.nsIn K mainGlobals "is_content" = some (some (.ref f_is_content)))
    (l_is_content : K.lookup f_is_content = some ⟨oc_is_content, od_is_content, .func (PySem.W.fnOf "is_content" "is_content" (defArgs s_is_content) (defBody s_is_content) (defScope s_is_content) .none kV_is_content dc_is_content pm_is_content an_is_content cd_is_content ct_is_content), sl_is_content⟩)
    (c_is_content : PySem.W.codeIn K cd_is_content "is_content" = true)
    (k_is_content : PySem.W.keepIn K (.ref f_is_content) = true)
    (a_check_file : PySem.W.nsIn K mainGlobals "check_file" = some (some (.ref f_check_file)))
    (l_check_file : K.lookup f_check_file = some ⟨oc_check_file, od_check_file, .func (PySem.W.fnOf "check_file" "check_file" (defArgs s_check_file) (defBody s_check_file) (defScope s_check_file) .none kV_check_file dc_check_file pm_check_file an_check_file cd_check_file ct_check_file), sl_check_file⟩)
    (c_check_file : PySem.W.codeIn K cd_check_file "check_file" = true)
    (k_check_file : PySem.W.keepIn K (.ref f_check_file) = true)
    (a_blocks_of : PySem.W.nsIn K mainGlobals "blocks_of" = some (some (.ref f_blocks_of)))
    (l_blocks_of : K.lookup f_blocks_of = some ⟨oc_blocks_of, od_blocks_of, .func (PySem.W.fnOf "blocks_of" "blocks_of" (defArgs s_blocks_of) (defBody s_blocks_of) (defScope s_blocks_of) .none kV_blocks_of dc_blocks_of pm_blocks_of an_blocks_of cd_blocks_of ct_blocks_of), sl_blocks_of⟩)
    (c_blocks_of : PySem.W.codeIn K cd_blocks_of "blocks_of" = true)
    (k_blocks_of : PySem.W.keepIn K (.ref f_blocks_of) = true)
    (a_is_write : PySem.W.nsIn K mainGlobals "is_write" = some (some (.ref f_is_write)))
    (l_is_write : K.lookup f_is_write = some ⟨oc_is_write, od_is_write, .func (PySem.W.fnOf "is_write" "is_write" (defArgs s_is_write) (defBody s_is_write) (defScope s_is_write) .none kV_is_write dc_is_write pm_is_write an_is_write cd_is_write ct_is_write), sl_is_write⟩)
    (c_is_write : PySem.W.codeIn K cd_is_write "is_write" = true)
    (k_is_write : PySem.W.keepIn K (.ref f_is_write) = true)
    (a_check_write : PySem.W.nsIn K mainGlobals "check_write" = some (some (.ref f_check_write)))
    (l_check_write : K.lookup f_check_write = some ⟨oc_check_write, od_check_write, .func (PySem.W.fnOf "check_write" "check_write" (defArgs s_check_write) (defBody s_check_write) (defScope s_check_write) .none kV_check_write dc_check_write pm_check_write an_check_write cd_check_write ct_check_write), sl_check_write⟩)
    (c_check_write : PySem.W.codeIn K cd_check_write "check_write" = true)
    (k_check_write : PySem.W.keepIn K (.ref f_check_write) = true)
    (a_written : PySem.W.nsIn K mainGlobals "written" = some (some (.ref f_written)))
    (l_written : K.lookup f_written = some ⟨oc_written, od_written, .func (PySem.W.fnOf "written" "written" (defArgs s_written) (defBody s_written) (defScope s_written) .none kV_written dc_written pm_written an_written cd_written ct_written), sl_written⟩)
    (c_written : PySem.W.codeIn K cd_written "written" = true)
    (k_written : PySem.W.keepIn K (.ref f_written) = true)
    (a_check_history : PySem.W.nsIn K mainGlobals "check_history" = some (some (.ref f_check_history)))
    (l_check_history : K.lookup f_check_history = some ⟨oc_check_history, od_check_history, .func (PySem.W.fnOf "check_history" "check_history" (defArgs s_check_history) (defBody s_check_history) (defScope s_check_history) .none kV_check_history dc_check_history pm_check_history an_check_history cd_check_history ct_check_history), sl_check_history⟩)
    (c_check_history : PySem.W.codeIn K cd_check_history "check_history" = true)
    (k_check_history : PySem.W.keepIn K (.ref f_check_history) = true)
    (a_check_asked : PySem.W.nsIn K mainGlobals "check_asked" = some (some (.ref f_check_asked)))
    (l_check_asked : K.lookup f_check_asked = some ⟨oc_check_asked, od_check_asked, .func (PySem.W.fnOf "check_asked" "check_asked" (defArgs s_check_asked) (defBody s_check_asked) (defScope s_check_asked) .none kV_check_asked dc_check_asked pm_check_asked an_check_asked cd_check_asked ct_check_asked), sl_check_asked⟩)
    (c_check_asked : PySem.W.codeIn K cd_check_asked "check_asked" = true)
    (k_check_asked : PySem.W.keepIn K (.ref f_check_asked) = true)
    (a_columns_of : PySem.W.nsIn K mainGlobals "columns_of" = some (some (.ref f_columns_of)))
    (l_columns_of : K.lookup f_columns_of = some ⟨oc_columns_of, od_columns_of, .func (PySem.W.fnOf "columns_of" "columns_of" (defArgs s_columns_of) (defBody s_columns_of) (defScope s_columns_of) .none kV_columns_of dc_columns_of pm_columns_of an_columns_of cd_columns_of ct_columns_of), sl_columns_of⟩)
    (c_columns_of : PySem.W.codeIn K cd_columns_of "columns_of" = true)
    (k_columns_of : PySem.W.keepIn K (.ref f_columns_of) = true)
    (a_columns_along : PySem.W.nsIn K mainGlobals "columns_along" = some (some (.ref f_columns_along)))
    (l_columns_along : K.lookup f_columns_along = some ⟨oc_columns_along, od_columns_along, .func (PySem.W.fnOf "columns_along" "columns_along" (defArgs s_columns_along) (defBody s_columns_along) (defScope s_columns_along) .none kV_columns_along dc_columns_along pm_columns_along an_columns_along cd_columns_along ct_columns_along), sl_columns_along⟩)
    (c_columns_along : PySem.W.codeIn K cd_columns_along "columns_along" = true)
    (k_columns_along : PySem.W.keepIn K (.ref f_columns_along) = true)
    (a_readings : PySem.W.nsIn K mainGlobals "readings" = some (some (.ref f_readings)))
    (l_readings : K.lookup f_readings = some ⟨oc_readings, od_readings, .func (PySem.W.fnOf "readings" "readings" (defArgs s_readings) (defBody s_readings) (defScope s_readings) .none kV_readings dc_readings pm_readings an_readings cd_readings ct_readings), sl_readings⟩)
    (c_readings : PySem.W.codeIn K cd_readings "readings" = true)
    (k_readings : PySem.W.keepIn K (.ref f_readings) = true)
    (a_counts_of : PySem.W.nsIn K mainGlobals "counts_of" = some (some (.ref f_counts_of)))
    (l_counts_of : K.lookup f_counts_of = some ⟨oc_counts_of, od_counts_of, .func (PySem.W.fnOf "counts_of" "counts_of" (defArgs s_counts_of) (defBody s_counts_of) (defScope s_counts_of) .none kV_counts_of dc_counts_of pm_counts_of an_counts_of cd_counts_of ct_counts_of), sl_counts_of⟩)
    (c_counts_of : PySem.W.codeIn K cd_counts_of "counts_of" = true)
    (k_counts_of : PySem.W.keepIn K (.ref f_counts_of) = true)
    (a_content_of : PySem.W.nsIn K mainGlobals "content_of" = some (some (.ref f_content_of)))
    (l_content_of : K.lookup f_content_of = some ⟨oc_content_of, od_content_of, .func (PySem.W.fnOf "content_of" "content_of" (defArgs s_content_of) (defBody s_content_of) (defScope s_content_of) .none kV_content_of dc_content_of pm_content_of an_content_of cd_content_of ct_content_of), sl_content_of⟩)
    (c_content_of : PySem.W.codeIn K cd_content_of "content_of" = true)
    (k_content_of : PySem.W.keepIn K (.ref f_content_of) = true)
    (a_torn_within : PySem.W.nsIn K mainGlobals "torn_within" = some (some (.ref f_torn_within)))
    (l_torn_within : K.lookup f_torn_within = some ⟨oc_torn_within, od_torn_within, .func (PySem.W.fnOf "torn_within" "torn_within" (defArgs s_torn_within) (defBody s_torn_within) (defScope s_torn_within) .none kV_torn_within dc_torn_within pm_torn_within an_torn_within cd_torn_within ct_torn_within), sl_torn_within⟩)
    (c_torn_within : PySem.W.codeIn K cd_torn_within "torn_within" = true)
    (k_torn_within : PySem.W.keepIn K (.ref f_torn_within) = true)
    (a_torn_copy : PySem.W.nsIn K mainGlobals "torn_copy" = some (some (.ref f_torn_copy)))
    (l_torn_copy : K.lookup f_torn_copy = some ⟨oc_torn_copy, od_torn_copy, .func (PySem.W.fnOf "torn_copy" "torn_copy" (defArgs s_torn_copy) (defBody s_torn_copy) (defScope s_torn_copy) (.ref T_torn_copy) (.ref KD_torn_copy) dc_torn_copy pm_torn_copy an_torn_copy cd_torn_copy ct_torn_copy), sl_torn_copy⟩)
    (c_torn_copy : PySem.W.codeIn K cd_torn_copy "torn_copy" = true)
    (k_torn_copy : PySem.W.keepIn K (.ref f_torn_copy) = true)
    (ld_torn_copy : K.lookup T_torn_copy = some ⟨ocT_torn_copy, odT_torn_copy, .seq #[(.int 0 tk0_torn_copy), .none] nT_torn_copy, slT_torn_copy⟩)
    (kd_torn_copy_down : PySem.W.nsIn K KD_torn_copy "down" = some (some (.bool false)))
    (a_parted : PySem.W.nsIn K mainGlobals "parted" = some (some (.ref f_parted)))
    (l_parted : K.lookup f_parted = some ⟨oc_parted, od_parted, .func (PySem.W.fnOf "parted" "parted" (defArgs s_parted) (defBody s_parted) (defScope s_parted) .none kV_parted dc_parted pm_parted an_parted cd_parted ct_parted), sl_parted⟩)
    (c_parted : PySem.W.codeIn K cd_parted "parted" = true)
    (k_parted : PySem.W.keepIn K (.ref f_parted) = true)
    (a_holds : PySem.W.nsIn K mainGlobals "holds" = some (some (.ref f_holds)))
    (l_holds : K.lookup f_holds = some ⟨oc_holds, od_holds, .func (PySem.W.fnOf "holds" "holds" (defArgs s_holds) (defBody s_holds) (defScope s_holds) .none (.ref KD_holds) dc_holds pm_holds an_holds cd_holds ct_holds), sl_holds⟩)
    (c_holds : PySem.W.codeIn K cd_holds "holds" = true)
    (k_holds : PySem.W.keepIn K (.ref f_holds) = true)
    (kd_holds_down : PySem.W.nsIn K KD_holds "down" = some (some (.bool false)))
    (a_windows : PySem.W.nsIn K mainGlobals "windows" = some (some (.ref f_windows)))
    (l_windows : K.lookup f_windows = some ⟨oc_windows, od_windows, .func (PySem.W.fnOf "windows" "windows" (defArgs s_windows) (defBody s_windows) (defScope s_windows) .none (.ref KD_windows) dc_windows pm_windows an_windows cd_windows ct_windows), sl_windows⟩)
    (c_windows : PySem.W.codeIn K cd_windows "windows" = true)
    (k_windows : PySem.W.keepIn K (.ref f_windows) = true)
    (kd_windows_down : PySem.W.nsIn K KD_windows "down" = some (some (.bool false)))
    (a_law_spring : PySem.W.nsIn K mainGlobals "_law_spring" = some (some (.ref f_law_spring)))
    (l_law_spring : K.lookup f_law_spring = some ⟨oc_law_spring, od_law_spring, .func (PySem.W.fnOf "_law_spring" "_law_spring" (defArgs s_law_spring) (defBody s_law_spring) (defScope s_law_spring) .none kV_law_spring dc_law_spring pm_law_spring an_law_spring cd_law_spring ct_law_spring), sl_law_spring⟩)
    (c_law_spring : PySem.W.codeIn K cd_law_spring "_law_spring" = true)
    (k_law_spring : PySem.W.keepIn K (.ref f_law_spring) = true)
    (a_law_sip : PySem.W.nsIn K mainGlobals "_law_sip" = some (some (.ref f_law_sip)))
    (l_law_sip : K.lookup f_law_sip = some ⟨oc_law_sip, od_law_sip, .func (PySem.W.fnOf "_law_sip" "_law_sip" (defArgs s_law_sip) (defBody s_law_sip) (defScope s_law_sip) .none kV_law_sip dc_law_sip pm_law_sip an_law_sip cd_law_sip ct_law_sip), sl_law_sip⟩)
    (c_law_sip : PySem.W.codeIn K cd_law_sip "_law_sip" = true)
    (k_law_sip : PySem.W.keepIn K (.ref f_law_sip) = true)
    (a_law_cells : PySem.W.nsIn K mainGlobals "_law_cells" = some (some (.ref f_law_cells)))
    (l_law_cells : K.lookup f_law_cells = some ⟨oc_law_cells, od_law_cells, .func (PySem.W.fnOf "_law_cells" "_law_cells" (defArgs s_law_cells) (defBody s_law_cells) (defScope s_law_cells) .none kV_law_cells dc_law_cells pm_law_cells an_law_cells cd_law_cells ct_law_cells), sl_law_cells⟩)
    (c_law_cells : PySem.W.codeIn K cd_law_cells "_law_cells" = true)
    (k_law_cells : PySem.W.keepIn K (.ref f_law_cells) = true)
    (a_law_text : PySem.W.nsIn K mainGlobals "_law_text" = some (some (.ref f_law_text)))
    (l_law_text : K.lookup f_law_text = some ⟨oc_law_text, od_law_text, .func (PySem.W.fnOf "_law_text" "_law_text" (defArgs s_law_text) (defBody s_law_text) (defScope s_law_text) .none kV_law_text dc_law_text pm_law_text an_law_text cd_law_text ct_law_text), sl_law_text⟩)
    (c_law_text : PySem.W.codeIn K cd_law_text "_law_text" = true)
    (k_law_text : PySem.W.keepIn K (.ref f_law_text) = true)
    (a_law_writes : PySem.W.nsIn K mainGlobals "_law_writes" = some (some (.ref f_law_writes)))
    (l_law_writes : K.lookup f_law_writes = some ⟨oc_law_writes, od_law_writes, .func (PySem.W.fnOf "_law_writes" "_law_writes" (defArgs s_law_writes) (defBody s_law_writes) (defScope s_law_writes) .none kV_law_writes dc_law_writes pm_law_writes an_law_writes cd_law_writes ct_law_writes), sl_law_writes⟩)
    (c_law_writes : PySem.W.codeIn K cd_law_writes "_law_writes" = true)
    (k_law_writes : PySem.W.keepIn K (.ref f_law_writes) = true)
    (a_law_states : PySem.W.nsIn K mainGlobals "_law_states" = some (some (.ref f_law_states)))
    (l_law_states : K.lookup f_law_states = some ⟨oc_law_states, od_law_states, .func (PySem.W.fnOf "_law_states" "_law_states" (defArgs s_law_states) (defBody s_law_states) (defScope s_law_states) .none kV_law_states dc_law_states pm_law_states an_law_states cd_law_states ct_law_states), sl_law_states⟩)
    (c_law_states : PySem.W.codeIn K cd_law_states "_law_states" = true)
    (k_law_states : PySem.W.keepIn K (.ref f_law_states) = true)
    (a_law_seen : PySem.W.nsIn K mainGlobals "_law_seen" = some (some (.ref f_law_seen)))
    (l_law_seen : K.lookup f_law_seen = some ⟨oc_law_seen, od_law_seen, .func (PySem.W.fnOf "_law_seen" "_law_seen" (defArgs s_law_seen) (defBody s_law_seen) (defScope s_law_seen) .none kV_law_seen dc_law_seen pm_law_seen an_law_seen cd_law_seen ct_law_seen), sl_law_seen⟩)
    (c_law_seen : PySem.W.codeIn K cd_law_seen "_law_seen" = true)
    (k_law_seen : PySem.W.keepIn K (.ref f_law_seen) = true)
    (a_law_right : PySem.W.nsIn K mainGlobals "_law_right" = some (some (.ref f_law_right)))
    (l_law_right : K.lookup f_law_right = some ⟨oc_law_right, od_law_right, .func (PySem.W.fnOf "_law_right" "_law_right" (defArgs s_law_right) (defBody s_law_right) (defScope s_law_right) .none kV_law_right dc_law_right pm_law_right an_law_right cd_law_right ct_law_right), sl_law_right⟩)
    (c_law_right : PySem.W.codeIn K cd_law_right "_law_right" = true)
    (k_law_right : PySem.W.keepIn K (.ref f_law_right) = true)
    (a_law : PySem.W.nsIn K mainGlobals "law" = some (some (.ref f_law)))
    (l_law : K.lookup f_law = some ⟨oc_law, od_law, .func (PySem.W.fnOf "law" "law" (defArgs s_law) (defBody s_law) (defScope s_law) .none kV_law dc_law pm_law an_law cd_law ct_law), sl_law⟩)
    (c_law : PySem.W.codeIn K cd_law "law" = true)
    (k_law : PySem.W.keepIn K (.ref f_law) = true)
    (a_File_init : PySem.W.findIn K (.ref C_File) "__init__" = some (some (.ref f_File_init)))
    (i_File_init : PySem.W.isFn K (.ref f_File_init) = true)
    (l_File_init : K.lookup f_File_init = some ⟨oc_File_init, od_File_init, .func (PySem.W.fnOf "__init__" "File.__init__" (defArgs s_File_init) (defBody s_File_init) (defScope s_File_init) (.ref T_File_init) kV_File_init dc_File_init pm_File_init an_File_init cd_File_init ct_File_init), sl_File_init⟩)
    (c_File_init : PySem.W.codeIn K cd_File_init "File.__init__" = true)
    (k_File_init : PySem.W.keepIn K (.ref f_File_init) = true)
    (ld_File_init : K.lookup T_File_init = some ⟨ocT_File_init, odT_File_init, .seq #[(.str "" tk0_File_init)] nT_File_init, slT_File_init⟩)
    (pa_File_cells : PySem.W.findIn K (.ref C_File) "cells" = some (some (.ref pr_File_cells)))
    (pb_File_cells : PySem.W.specialIn K (.ref pr_File_cells) "__get__" = some (some (.builtin "property.__get__")))
    (pc_File_cells : PySem.W.takesIn K (.ref pr_File_cells) = some true)
    (pd_File_cells : PySem.W.recIn K pr_File_cells "property" = some (.ref f_File_cells :: rs_File_cells))
    (l_File_cells : K.lookup f_File_cells = some ⟨oc_File_cells, od_File_cells, .func (PySem.W.fnOf "cells" "File.cells" (defArgs s_File_cells) (defBody s_File_cells) (defScope s_File_cells) .none kV_File_cells dc_File_cells pm_File_cells an_File_cells cd_File_cells ct_File_cells), sl_File_cells⟩)
    (c_File_cells : PySem.W.codeIn K cd_File_cells "File.cells" = true)
    (k_File_cells : PySem.W.keepIn K (.ref f_File_cells) = true)
    (pa_File_content : PySem.W.findIn K (.ref C_File) "content" = some (some (.ref pr_File_content)))
    (pb_File_content : PySem.W.specialIn K (.ref pr_File_content) "__get__" = some (some (.builtin "property.__get__")))
    (pc_File_content : PySem.W.takesIn K (.ref pr_File_content) = some true)
    (pd_File_content : PySem.W.recIn K pr_File_content "property" = some (.ref f_File_content :: rs_File_content))
    (l_File_content : K.lookup f_File_content = some ⟨oc_File_content, od_File_content, .func (PySem.W.fnOf "content" "File.content" (defArgs s_File_content) (defBody s_File_content) (defScope s_File_content) .none kV_File_content dc_File_content pm_File_content an_File_content cd_File_content ct_File_content), sl_File_content⟩)
    (c_File_content : PySem.W.codeIn K cd_File_content "File.content" = true)
    (k_File_content : PySem.W.keepIn K (.ref f_File_content) = true)
    (a_File_len : PySem.W.findIn K (.ref C_File) "__len__" = some (some (.ref f_File_len)))
    (i_File_len : PySem.W.isFn K (.ref f_File_len) = true)
    (l_File_len : K.lookup f_File_len = some ⟨oc_File_len, od_File_len, .func (PySem.W.fnOf "__len__" "File.__len__" (defArgs s_File_len) (defBody s_File_len) (defScope s_File_len) .none kV_File_len dc_File_len pm_File_len an_File_len cd_File_len ct_File_len), sl_File_len⟩)
    (c_File_len : PySem.W.codeIn K cd_File_len "File.__len__" = true)
    (k_File_len : PySem.W.keepIn K (.ref f_File_len) = true)
    (a_File_iter : PySem.W.findIn K (.ref C_File) "__iter__" = some (some (.ref f_File_iter)))
    (i_File_iter : PySem.W.isFn K (.ref f_File_iter) = true)
    (l_File_iter : K.lookup f_File_iter = some ⟨oc_File_iter, od_File_iter, .func (PySem.W.fnOf "__iter__" "File.__iter__" (defArgs s_File_iter) (defBody s_File_iter) (defScope s_File_iter) .none kV_File_iter dc_File_iter pm_File_iter an_File_iter cd_File_iter ct_File_iter), sl_File_iter⟩)
    (c_File_iter : PySem.W.codeIn K cd_File_iter "File.__iter__" = true)
    (k_File_iter : PySem.W.keepIn K (.ref f_File_iter) = true)
    (a_File_getitem : PySem.W.findIn K (.ref C_File) "__getitem__" = some (some (.ref f_File_getitem)))
    (i_File_getitem : PySem.W.isFn K (.ref f_File_getitem) = true)
    (l_File_getitem : K.lookup f_File_getitem = some ⟨oc_File_getitem, od_File_getitem, .func (PySem.W.fnOf "__getitem__" "File.__getitem__" (defArgs s_File_getitem) (defBody s_File_getitem) (defScope s_File_getitem) .none kV_File_getitem dc_File_getitem pm_File_getitem an_File_getitem cd_File_getitem ct_File_getitem), sl_File_getitem⟩)
    (c_File_getitem : PySem.W.codeIn K cd_File_getitem "File.__getitem__" = true)
    (k_File_getitem : PySem.W.keepIn K (.ref f_File_getitem) = true)
    (a_File_eq : PySem.W.findIn K (.ref C_File) "__eq__" = some (some (.ref f_File_eq)))
    (i_File_eq : PySem.W.isFn K (.ref f_File_eq) = true)
    (l_File_eq : K.lookup f_File_eq = some ⟨oc_File_eq, od_File_eq, .func (PySem.W.fnOf "__eq__" "File.__eq__" (defArgs s_File_eq) (defBody s_File_eq) (defScope s_File_eq) .none kV_File_eq dc_File_eq pm_File_eq an_File_eq cd_File_eq ct_File_eq), sl_File_eq⟩)
    (c_File_eq : PySem.W.codeIn K cd_File_eq "File.__eq__" = true)
    (k_File_eq : PySem.W.keepIn K (.ref f_File_eq) = true)
    (a_History_init : PySem.W.findIn K (.ref C_History) "__init__" = some (some (.ref f_History_init)))
    (i_History_init : PySem.W.isFn K (.ref f_History_init) = true)
    (l_History_init : K.lookup f_History_init = some ⟨oc_History_init, od_History_init, .func (PySem.W.fnOf "__init__" "History.__init__" (defArgs s_History_init) (defBody s_History_init) (defScope s_History_init) (.ref T_History_init) kV_History_init dc_History_init pm_History_init an_History_init cd_History_init ct_History_init), sl_History_init⟩)
    (c_History_init : PySem.W.codeIn K cd_History_init "History.__init__" = true)
    (k_History_init : PySem.W.keepIn K (.ref f_History_init) = true)
    (ld_History_init : K.lookup T_History_init = some ⟨ocT_History_init, odT_History_init, .seq #[.none] nT_History_init, slT_History_init⟩)
    (pa_History_file : PySem.W.findIn K (.ref C_History) "file" = some (some (.ref pr_History_file)))
    (pb_History_file : PySem.W.specialIn K (.ref pr_History_file) "__get__" = some (some (.builtin "property.__get__")))
    (pc_History_file : PySem.W.takesIn K (.ref pr_History_file) = some true)
    (pd_History_file : PySem.W.recIn K pr_History_file "property" = some (.ref f_History_file :: rs_History_file))
    (l_History_file : K.lookup f_History_file = some ⟨oc_History_file, od_History_file, .func (PySem.W.fnOf "file" "History.file" (defArgs s_History_file) (defBody s_History_file) (defScope s_History_file) .none kV_History_file dc_History_file pm_History_file an_History_file cd_History_file ct_History_file), sl_History_file⟩)
    (c_History_file : PySem.W.codeIn K cd_History_file "History.file" = true)
    (k_History_file : PySem.W.keepIn K (.ref f_History_file) = true)
    (a_History_len : PySem.W.findIn K (.ref C_History) "__len__" = some (some (.ref f_History_len)))
    (i_History_len : PySem.W.isFn K (.ref f_History_len) = true)
    (l_History_len : K.lookup f_History_len = some ⟨oc_History_len, od_History_len, .func (PySem.W.fnOf "__len__" "History.__len__" (defArgs s_History_len) (defBody s_History_len) (defScope s_History_len) .none kV_History_len dc_History_len pm_History_len an_History_len cd_History_len ct_History_len), sl_History_len⟩)
    (c_History_len : PySem.W.codeIn K cd_History_len "History.__len__" = true)
    (k_History_len : PySem.W.keepIn K (.ref f_History_len) = true)
    (a_History_iter : PySem.W.findIn K (.ref C_History) "__iter__" = some (some (.ref f_History_iter)))
    (i_History_iter : PySem.W.isFn K (.ref f_History_iter) = true)
    (l_History_iter : K.lookup f_History_iter = some ⟨oc_History_iter, od_History_iter, .func (PySem.W.fnOf "__iter__" "History.__iter__" (defArgs s_History_iter) (defBody s_History_iter) (defScope s_History_iter) .none kV_History_iter dc_History_iter pm_History_iter an_History_iter cd_History_iter ct_History_iter), sl_History_iter⟩)
    (c_History_iter : PySem.W.codeIn K cd_History_iter "History.__iter__" = true)
    (k_History_iter : PySem.W.keepIn K (.ref f_History_iter) = true)
    (a_History_getitem : PySem.W.findIn K (.ref C_History) "__getitem__" = some (some (.ref f_History_getitem)))
    (i_History_getitem : PySem.W.isFn K (.ref f_History_getitem) = true)
    (l_History_getitem : K.lookup f_History_getitem = some ⟨oc_History_getitem, od_History_getitem, .func (PySem.W.fnOf "__getitem__" "History.__getitem__" (defArgs s_History_getitem) (defBody s_History_getitem) (defScope s_History_getitem) .none kV_History_getitem dc_History_getitem pm_History_getitem an_History_getitem cd_History_getitem ct_History_getitem), sl_History_getitem⟩)
    (c_History_getitem : PySem.W.codeIn K cd_History_getitem "History.__getitem__" = true)
    (k_History_getitem : PySem.W.keepIn K (.ref f_History_getitem) = true)
    (a_History_iadd : PySem.W.findIn K (.ref C_History) "__iadd__" = some (some (.ref f_History_iadd)))
    (i_History_iadd : PySem.W.isFn K (.ref f_History_iadd) = true)
    (l_History_iadd : K.lookup f_History_iadd = some ⟨oc_History_iadd, od_History_iadd, .func (PySem.W.fnOf "__iadd__" "History.__iadd__" (defArgs s_History_iadd) (defBody s_History_iadd) (defScope s_History_iadd) .none kV_History_iadd dc_History_iadd pm_History_iadd an_History_iadd cd_History_iadd ct_History_iadd), sl_History_iadd⟩)
    (c_History_iadd : PySem.W.codeIn K cd_History_iadd "History.__iadd__" = true)
    (k_History_iadd : PySem.W.keepIn K (.ref f_History_iadd) = true)
    (a_History_eq : PySem.W.findIn K (.ref C_History) "__eq__" = some (some (.ref f_History_eq)))
    (i_History_eq : PySem.W.isFn K (.ref f_History_eq) = true)
    (l_History_eq : K.lookup f_History_eq = some ⟨oc_History_eq, od_History_eq, .func (PySem.W.fnOf "__eq__" "History.__eq__" (defArgs s_History_eq) (defBody s_History_eq) (defScope s_History_eq) .none kV_History_eq dc_History_eq pm_History_eq an_History_eq cd_History_eq ct_History_eq), sl_History_eq⟩)
    (c_History_eq : PySem.W.codeIn K cd_History_eq "History.__eq__" = true)
    (k_History_eq : PySem.W.keepIn K (.ref f_History_eq) = true)
    (a_History_states : PySem.W.findIn K (.ref C_History) "states" = some (some (.ref f_History_states)))
    (i_History_states : PySem.W.isFn K (.ref f_History_states) = true)
    (l_History_states : K.lookup f_History_states = some ⟨oc_History_states, od_History_states, .func (PySem.W.fnOf "states" "History.states" (defArgs s_History_states) (defBody s_History_states) (defScope s_History_states) .none kV_History_states dc_History_states pm_History_states an_History_states cd_History_states ct_History_states), sl_History_states⟩)
    (c_History_states : PySem.W.codeIn K cd_History_states "History.states" = true)
    (k_History_states : PySem.W.keepIn K (.ref f_History_states) = true)
    (a_History_at : PySem.W.findIn K (.ref C_History) "at" = some (some (.ref f_History_at)))
    (i_History_at : PySem.W.isFn K (.ref f_History_at) = true)
    (l_History_at : K.lookup f_History_at = some ⟨oc_History_at, od_History_at, .func (PySem.W.fnOf "at" "History.at" (defArgs s_History_at) (defBody s_History_at) (defScope s_History_at) .none kV_History_at dc_History_at pm_History_at an_History_at cd_History_at ct_History_at), sl_History_at⟩)
    (c_History_at : PySem.W.codeIn K cd_History_at "History.at" = true)
    (k_History_at : PySem.W.keepIn K (.ref f_History_at) = true)
    (a_History_copy : PySem.W.findIn K (.ref C_History) "copy" = some (some (.ref f_History_copy)))
    (i_History_copy : PySem.W.isFn K (.ref f_History_copy) = true)
    (l_History_copy : K.lookup f_History_copy = some ⟨oc_History_copy, od_History_copy, .func (PySem.W.fnOf "copy" "History.copy" (defArgs s_History_copy) (defBody s_History_copy) (defScope s_History_copy) .none kV_History_copy dc_History_copy pm_History_copy an_History_copy cd_History_copy ct_History_copy), sl_History_copy⟩)
    (c_History_copy : PySem.W.codeIn K cd_History_copy "History.copy" = true)
    (k_History_copy : PySem.W.keepIn K (.ref f_History_copy) = true)
    (ohn : PySem.W.specialIn K (.builtin "object.__class__") "__get__" = some (some (.builtin "getset_descriptor.__get__")))
    (otk : PySem.W.takesIn K (.builtin "object.__class__") = some true)
    (pg_File : PySem.W.plainGet K C_File Str.empty = true)
    (hd_File : PySem.W.hasDictIn K C_File = true)
    (po_File : PySem.W.plainOver K C_File = true)
    (sa_File : PySem.W.findIn K (.ref C_File) "__setattr__" = some (some (.builtin "object.__setattr__")))
    (ha_File : PySem.W.findIn K (.ref C_File) "__class__" = some (some (.builtin "object.__class__")))
    (mr_File : PySem.W.mroIn K C_File (.type "object") = some true)
    (ms_File : PySem.W.mroIn K C_File (.ref C_File) = some true)
    (mk_File : PySem.W.makesIn K C_File = true)
    (kc_File : PySem.W.keepIn K (.ref C_File) = true)
    (na_File_row : PySem.W.findIn K (.ref C_File) "row" = some none)
    (pg_History : PySem.W.plainGet K C_History Str.empty = true)
    (hd_History : PySem.W.hasDictIn K C_History = true)
    (po_History : PySem.W.plainOver K C_History = true)
    (sa_History : PySem.W.findIn K (.ref C_History) "__setattr__" = some (some (.builtin "object.__setattr__")))
    (ha_History : PySem.W.findIn K (.ref C_History) "__class__" = some (some (.builtin "object.__class__")))
    (mr_History : PySem.W.mroIn K C_History (.type "object") = some true)
    (ms_History : PySem.W.mroIn K C_History (.ref C_History) = some true)
    (mk_History : PySem.W.makesIn K C_History = true)
    (kc_History : PySem.W.keepIn K (.ref C_History) = true)
    (na_History_start : PySem.W.findIn K (.ref C_History) "start" = some none)
    (na_History_rows : PySem.W.findIn K (.ref C_History) "rows" = some none)
    (ic_File : PySem.W.isClsIn K C_File = true)
    (tc_File : PySem.W.typeIn K (.ref C_File) = some (.type "type"))
    (ic_History : PySem.W.isClsIn K C_History = true)
    (tc_History : PySem.W.typeIn K (.ref C_History) = some (.type "type"))
    (ne_File : PySem.W.findIn K (.ref C_File) "__ne__" = some (some (.builtin "object.__ne__")))
    (fi_File_getitem : PySem.W.fnIn K f_File_getitem = true)
    (ne_History : PySem.W.findIn K (.ref C_History) "__ne__" = some (some (.builtin "object.__ne__")))
    (fi_History_getitem : PySem.W.fnIn K f_History_getitem = true)
    (s_File_History : PySem.W.subIn K (.ref C_File) (.ref C_History) = some false)
    (s_File_bool : PySem.W.subIn K (.ref C_File) (.type "bool") = some false)
    (s_File_int : PySem.W.subIn K (.ref C_File) (.type "int") = some false)
    (s_File_list : PySem.W.subIn K (.ref C_File) (.type "list") = some false)
    (s_File_str : PySem.W.subIn K (.ref C_File) (.type "str") = some false)
    (s_File_tuple : PySem.W.subIn K (.ref C_File) (.type "tuple") = some false)
    (nf_History_File : PySem.W.notFirst K C_History (.ref C_File) = true)
    (s_History_File : PySem.W.subIn K (.ref C_History) (.ref C_File) = some false)
    (s_History_bool : PySem.W.subIn K (.ref C_History) (.type "bool") = some false)
    (s_History_int : PySem.W.subIn K (.ref C_History) (.type "int") = some false)
    (s_History_list : PySem.W.subIn K (.ref C_History) (.type "list") = some false)
    (s_History_str : PySem.W.subIn K (.ref C_History) (.type "str") = some false)
    (s_History_tuple : PySem.W.subIn K (.ref C_History) (.type "tuple") = some false)
    (nf_File_History : PySem.W.notFirst K C_File (.ref C_History) = true)
    (zop : PySem.W.nsIn K cStatics "thirdparty.any" = some none)
    (ac_InvalidFile : PySem.W.nsIn K mainGlobals "InvalidFile" = some (some (.ref C_InvalidFile)))
    (ac_HoleError : PySem.W.nsIn K mainGlobals "HoleError" = some (some (.ref C_HoleError)))
    (xL_InvalidFile : K.lookup C_InvalidFile = some (excClassObj nm_InvalidFile q_InvalidFile C_InvalidFile NN_InvalidFile bs_InvalidFile [.ref C_HoleError, .type "ValueError", .type "Exception", .type "BaseException", .type "object"] true sn_InvalidFile sub_InvalidFile ab_InvalidFile col_InvalidFile dd_InvalidFile m0_InvalidFile m1_InvalidFile m2_InvalidFile m3_InvalidFile m5_InvalidFile "ValueError.__new__"))
    (sa_InvalidFile : PySem.W.findIn K (.ref C_InvalidFile) "__setattr__" = some (some (.builtin "object.__setattr__")))
    (ga_InvalidFile : PySem.W.findIn K (.ref C_InvalidFile) "__getattribute__" = some (some (.builtin "BaseException.__getattribute__")))
    (gg_InvalidFile : PySem.W.findIn K (.ref C_InvalidFile) "__getattr__" = some none)
    (nb_InvalidFile : PySem.W.findIn K (.ref C_InvalidFile) "value" = some none)
    (i_InvalidFile : PySem.W.findIn K (.ref C_InvalidFile) "__init__" = some (some (.ref I_InvalidFile)))
    (t_InvalidFile : PySem.W.typeIn K (.ref I_InvalidFile) = some (.type "function"))
    (l_InvalidFile : K.lookup I_InvalidFile = some ⟨oc_InvalidFile, od_InvalidFile, .func (ksFn "__init__" "InvalidFile.__init__" (defArgs si_InvalidFile) (defBody si_InvalidFile) (defScope si_InvalidFile) (.ref T_InvalidFile) kV_InvalidFile dc_InvalidFile pm_InvalidFile an_InvalidFile (.ref cda_InvalidFile) ct_InvalidFile cc_InvalidFile), sl_InvalidFile⟩)
    (ld_InvalidFile : K.lookup T_InvalidFile = some ⟨ocT_InvalidFile, odT_InvalidFile, .seq #[.none] nT_InvalidFile, slT_InvalidFile⟩)
    (cd_InvalidFile : PySem.W.codeIn K (.ref cda_InvalidFile) "InvalidFile.__init__" = true)
    (cr_InvalidFile : K.lookup cda_InvalidFile = some ⟨ccl_InvalidFile, cdd_InvalidFile, .fields vs_InvalidFile, ccs_InvalidFile⟩)
    (v2_InvalidFile : vs_InvalidFile[2]? = some (.str file_InvalidFile tf_InvalidFile))
    (fl_InvalidFile : ((PySem.Challenge.rw_keptholes_k63_whole_writes_seen_in_part.prog.main.file : Str) == file_InvalidFile) = true)
    (clc_InvalidFile : K.lookup cc_InvalidFile = some ⟨cl_InvalidFile, cld_InvalidFile, .cell (some (.ref C_InvalidFile)), csl_InvalidFile⟩)
    (al_InvalidFile : PySem.W.ks_superIn K C_InvalidFile C_InvalidFile "__init__" = some (some (.builtin "ValueError.__init__")))
    (sV_InvalidFile : PySem.W.subIn K (.ref C_InvalidFile) (.type "ValueError") = some true)
    (eC_InvalidFile : PySem.W.subIn K (.ref C_InvalidFile) (.type "BaseException") = some true)
    (sC_InvalidFile : PySem.W.mroIn K C_InvalidFile (.ref C_InvalidFile) = some true)
    (kC_InvalidFile : PySem.W.keepIn K (.ref C_InvalidFile) = true)
    (tC_InvalidFile : PySem.W.typeIn K (.ref C_InvalidFile) = some (.type "type"))
    (hC_InvalidFile : PySem.W.hasDictIn K C_InvalidFile = true)
    (iC_InvalidFile : PySem.W.isClsIn K C_InvalidFile = true)
    (s_InvalidFile_InvalidFile : PySem.W.subIn K (.ref C_InvalidFile) (.ref C_InvalidFile) = some true)
    (ac_InvalidNumber : PySem.W.nsIn K mainGlobals "InvalidNumber" = some (some (.ref C_InvalidNumber)))
    (xL_InvalidNumber : K.lookup C_InvalidNumber = some (excClassObj nm_InvalidNumber q_InvalidNumber C_InvalidNumber NN_InvalidNumber bs_InvalidNumber [.ref C_HoleError, .type "ValueError", .type "Exception", .type "BaseException", .type "object"] true sn_InvalidNumber sub_InvalidNumber ab_InvalidNumber col_InvalidNumber dd_InvalidNumber m0_InvalidNumber m1_InvalidNumber m2_InvalidNumber m3_InvalidNumber m5_InvalidNumber "ValueError.__new__"))
    (sa_InvalidNumber : PySem.W.findIn K (.ref C_InvalidNumber) "__setattr__" = some (some (.builtin "object.__setattr__")))
    (ga_InvalidNumber : PySem.W.findIn K (.ref C_InvalidNumber) "__getattribute__" = some (some (.builtin "BaseException.__getattribute__")))
    (gg_InvalidNumber : PySem.W.findIn K (.ref C_InvalidNumber) "__getattr__" = some none)
    (nb_InvalidNumber : PySem.W.findIn K (.ref C_InvalidNumber) "value" = some none)
    (i_InvalidNumber : PySem.W.findIn K (.ref C_InvalidNumber) "__init__" = some (some (.ref I_InvalidNumber)))
    (t_InvalidNumber : PySem.W.typeIn K (.ref I_InvalidNumber) = some (.type "function"))
    (l_InvalidNumber : K.lookup I_InvalidNumber = some ⟨oc_InvalidNumber, od_InvalidNumber, .func (ksFn "__init__" "InvalidNumber.__init__" (defArgs si_InvalidNumber) (defBody si_InvalidNumber) (defScope si_InvalidNumber) (.ref T_InvalidNumber) kV_InvalidNumber dc_InvalidNumber pm_InvalidNumber an_InvalidNumber (.ref cda_InvalidNumber) ct_InvalidNumber cc_InvalidNumber), sl_InvalidNumber⟩)
    (ld_InvalidNumber : K.lookup T_InvalidNumber = some ⟨ocT_InvalidNumber, odT_InvalidNumber, .seq #[.none] nT_InvalidNumber, slT_InvalidNumber⟩)
    (cd_InvalidNumber : PySem.W.codeIn K (.ref cda_InvalidNumber) "InvalidNumber.__init__" = true)
    (cr_InvalidNumber : K.lookup cda_InvalidNumber = some ⟨ccl_InvalidNumber, cdd_InvalidNumber, .fields vs_InvalidNumber, ccs_InvalidNumber⟩)
    (v2_InvalidNumber : vs_InvalidNumber[2]? = some (.str file_InvalidNumber tf_InvalidNumber))
    (fl_InvalidNumber : ((PySem.Challenge.rw_keptholes_k63_whole_writes_seen_in_part.prog.main.file : Str) == file_InvalidNumber) = true)
    (clc_InvalidNumber : K.lookup cc_InvalidNumber = some ⟨cl_InvalidNumber, cld_InvalidNumber, .cell (some (.ref C_InvalidNumber)), csl_InvalidNumber⟩)
    (al_InvalidNumber : PySem.W.ks_superIn K C_InvalidNumber C_InvalidNumber "__init__" = some (some (.builtin "ValueError.__init__")))
    (sV_InvalidNumber : PySem.W.subIn K (.ref C_InvalidNumber) (.type "ValueError") = some true)
    (eC_InvalidNumber : PySem.W.subIn K (.ref C_InvalidNumber) (.type "BaseException") = some true)
    (sC_InvalidNumber : PySem.W.mroIn K C_InvalidNumber (.ref C_InvalidNumber) = some true)
    (kC_InvalidNumber : PySem.W.keepIn K (.ref C_InvalidNumber) = true)
    (tC_InvalidNumber : PySem.W.typeIn K (.ref C_InvalidNumber) = some (.type "type"))
    (hC_InvalidNumber : PySem.W.hasDictIn K C_InvalidNumber = true)
    (iC_InvalidNumber : PySem.W.isClsIn K C_InvalidNumber = true)
    (s_InvalidNumber_InvalidNumber : PySem.W.subIn K (.ref C_InvalidNumber) (.ref C_InvalidNumber) = some true)
    (ac_InvalidList : PySem.W.nsIn K mainGlobals "InvalidList" = some (some (.ref C_InvalidList)))
    (xL_InvalidList : K.lookup C_InvalidList = some (excClassObj nm_InvalidList q_InvalidList C_InvalidList NN_InvalidList bs_InvalidList [.ref C_HoleError, .type "ValueError", .type "Exception", .type "BaseException", .type "object"] true sn_InvalidList sub_InvalidList ab_InvalidList col_InvalidList dd_InvalidList m0_InvalidList m1_InvalidList m2_InvalidList m3_InvalidList m5_InvalidList "ValueError.__new__"))
    (sa_InvalidList : PySem.W.findIn K (.ref C_InvalidList) "__setattr__" = some (some (.builtin "object.__setattr__")))
    (ga_InvalidList : PySem.W.findIn K (.ref C_InvalidList) "__getattribute__" = some (some (.builtin "BaseException.__getattribute__")))
    (gg_InvalidList : PySem.W.findIn K (.ref C_InvalidList) "__getattr__" = some none)
    (nb_InvalidList : PySem.W.findIn K (.ref C_InvalidList) "value" = some none)
    (i_InvalidList : PySem.W.findIn K (.ref C_InvalidList) "__init__" = some (some (.ref I_InvalidList)))
    (t_InvalidList : PySem.W.typeIn K (.ref I_InvalidList) = some (.type "function"))
    (l_InvalidList : K.lookup I_InvalidList = some ⟨oc_InvalidList, od_InvalidList, .func (ksFn "__init__" "InvalidList.__init__" (defArgs si_InvalidList) (defBody si_InvalidList) (defScope si_InvalidList) (.ref T_InvalidList) kV_InvalidList dc_InvalidList pm_InvalidList an_InvalidList (.ref cda_InvalidList) ct_InvalidList cc_InvalidList), sl_InvalidList⟩)
    (ld_InvalidList : K.lookup T_InvalidList = some ⟨ocT_InvalidList, odT_InvalidList, .seq #[.none] nT_InvalidList, slT_InvalidList⟩)
    (cd_InvalidList : PySem.W.codeIn K (.ref cda_InvalidList) "InvalidList.__init__" = true)
    (cr_InvalidList : K.lookup cda_InvalidList = some ⟨ccl_InvalidList, cdd_InvalidList, .fields vs_InvalidList, ccs_InvalidList⟩)
    (v2_InvalidList : vs_InvalidList[2]? = some (.str file_InvalidList tf_InvalidList))
    (fl_InvalidList : ((PySem.Challenge.rw_keptholes_k63_whole_writes_seen_in_part.prog.main.file : Str) == file_InvalidList) = true)
    (clc_InvalidList : K.lookup cc_InvalidList = some ⟨cl_InvalidList, cld_InvalidList, .cell (some (.ref C_InvalidList)), csl_InvalidList⟩)
    (al_InvalidList : PySem.W.ks_superIn K C_InvalidList C_InvalidList "__init__" = some (some (.builtin "ValueError.__init__")))
    (sV_InvalidList : PySem.W.subIn K (.ref C_InvalidList) (.type "ValueError") = some true)
    (eC_InvalidList : PySem.W.subIn K (.ref C_InvalidList) (.type "BaseException") = some true)
    (sC_InvalidList : PySem.W.mroIn K C_InvalidList (.ref C_InvalidList) = some true)
    (kC_InvalidList : PySem.W.keepIn K (.ref C_InvalidList) = true)
    (tC_InvalidList : PySem.W.typeIn K (.ref C_InvalidList) = some (.type "type"))
    (hC_InvalidList : PySem.W.hasDictIn K C_InvalidList = true)
    (iC_InvalidList : PySem.W.isClsIn K C_InvalidList = true)
    (s_InvalidList_InvalidList : PySem.W.subIn K (.ref C_InvalidList) (.ref C_InvalidList) = some true)
    (ac_InvalidWrite : PySem.W.nsIn K mainGlobals "InvalidWrite" = some (some (.ref C_InvalidWrite)))
    (xL_InvalidWrite : K.lookup C_InvalidWrite = some (excClassObj nm_InvalidWrite q_InvalidWrite C_InvalidWrite NN_InvalidWrite bs_InvalidWrite [.ref C_HoleError, .type "ValueError", .type "Exception", .type "BaseException", .type "object"] true sn_InvalidWrite sub_InvalidWrite ab_InvalidWrite col_InvalidWrite dd_InvalidWrite m0_InvalidWrite m1_InvalidWrite m2_InvalidWrite m3_InvalidWrite m5_InvalidWrite "ValueError.__new__"))
    (sa_InvalidWrite : PySem.W.findIn K (.ref C_InvalidWrite) "__setattr__" = some (some (.builtin "object.__setattr__")))
    (ga_InvalidWrite : PySem.W.findIn K (.ref C_InvalidWrite) "__getattribute__" = some (some (.builtin "BaseException.__getattribute__")))
    (gg_InvalidWrite : PySem.W.findIn K (.ref C_InvalidWrite) "__getattr__" = some none)
    (nb_InvalidWrite : PySem.W.findIn K (.ref C_InvalidWrite) "value" = some none)
    (i_InvalidWrite : PySem.W.findIn K (.ref C_InvalidWrite) "__init__" = some (some (.ref I_InvalidWrite)))
    (t_InvalidWrite : PySem.W.typeIn K (.ref I_InvalidWrite) = some (.type "function"))
    (l_InvalidWrite : K.lookup I_InvalidWrite = some ⟨oc_InvalidWrite, od_InvalidWrite, .func (ksFn "__init__" "InvalidWrite.__init__" (defArgs si_InvalidWrite) (defBody si_InvalidWrite) (defScope si_InvalidWrite) (.ref T_InvalidWrite) kV_InvalidWrite dc_InvalidWrite pm_InvalidWrite an_InvalidWrite (.ref cda_InvalidWrite) ct_InvalidWrite cc_InvalidWrite), sl_InvalidWrite⟩)
    (ld_InvalidWrite : K.lookup T_InvalidWrite = some ⟨ocT_InvalidWrite, odT_InvalidWrite, .seq #[.none] nT_InvalidWrite, slT_InvalidWrite⟩)
    (cd_InvalidWrite : PySem.W.codeIn K (.ref cda_InvalidWrite) "InvalidWrite.__init__" = true)
    (cr_InvalidWrite : K.lookup cda_InvalidWrite = some ⟨ccl_InvalidWrite, cdd_InvalidWrite, .fields vs_InvalidWrite, ccs_InvalidWrite⟩)
    (v2_InvalidWrite : vs_InvalidWrite[2]? = some (.str file_InvalidWrite tf_InvalidWrite))
    (fl_InvalidWrite : ((PySem.Challenge.rw_keptholes_k63_whole_writes_seen_in_part.prog.main.file : Str) == file_InvalidWrite) = true)
    (clc_InvalidWrite : K.lookup cc_InvalidWrite = some ⟨cl_InvalidWrite, cld_InvalidWrite, .cell (some (.ref C_InvalidWrite)), csl_InvalidWrite⟩)
    (al_InvalidWrite : PySem.W.ks_superIn K C_InvalidWrite C_InvalidWrite "__init__" = some (some (.builtin "ValueError.__init__")))
    (sV_InvalidWrite : PySem.W.subIn K (.ref C_InvalidWrite) (.type "ValueError") = some true)
    (eC_InvalidWrite : PySem.W.subIn K (.ref C_InvalidWrite) (.type "BaseException") = some true)
    (sC_InvalidWrite : PySem.W.mroIn K C_InvalidWrite (.ref C_InvalidWrite) = some true)
    (kC_InvalidWrite : PySem.W.keepIn K (.ref C_InvalidWrite) = true)
    (tC_InvalidWrite : PySem.W.typeIn K (.ref C_InvalidWrite) = some (.type "type"))
    (hC_InvalidWrite : PySem.W.hasDictIn K C_InvalidWrite = true)
    (iC_InvalidWrite : PySem.W.isClsIn K C_InvalidWrite = true)
    (s_InvalidWrite_InvalidWrite : PySem.W.subIn K (.ref C_InvalidWrite) (.ref C_InvalidWrite) = some true)
    (ac_InvalidHistory : PySem.W.nsIn K mainGlobals "InvalidHistory" = some (some (.ref C_InvalidHistory)))
    (xL_InvalidHistory : K.lookup C_InvalidHistory = some (excClassObj nm_InvalidHistory q_InvalidHistory C_InvalidHistory NN_InvalidHistory bs_InvalidHistory [.ref C_HoleError, .type "ValueError", .type "Exception", .type "BaseException", .type "object"] true sn_InvalidHistory sub_InvalidHistory ab_InvalidHistory col_InvalidHistory dd_InvalidHistory m0_InvalidHistory m1_InvalidHistory m2_InvalidHistory m3_InvalidHistory m5_InvalidHistory "ValueError.__new__"))
    (sa_InvalidHistory : PySem.W.findIn K (.ref C_InvalidHistory) "__setattr__" = some (some (.builtin "object.__setattr__")))
    (ga_InvalidHistory : PySem.W.findIn K (.ref C_InvalidHistory) "__getattribute__" = some (some (.builtin "BaseException.__getattribute__")))
    (gg_InvalidHistory : PySem.W.findIn K (.ref C_InvalidHistory) "__getattr__" = some none)
    (nb_InvalidHistory : PySem.W.findIn K (.ref C_InvalidHistory) "value" = some none)
    (i_InvalidHistory : PySem.W.findIn K (.ref C_InvalidHistory) "__init__" = some (some (.ref I_InvalidHistory)))
    (t_InvalidHistory : PySem.W.typeIn K (.ref I_InvalidHistory) = some (.type "function"))
    (l_InvalidHistory : K.lookup I_InvalidHistory = some ⟨oc_InvalidHistory, od_InvalidHistory, .func (ksFn "__init__" "InvalidHistory.__init__" (defArgs si_InvalidHistory) (defBody si_InvalidHistory) (defScope si_InvalidHistory) (.ref T_InvalidHistory) kV_InvalidHistory dc_InvalidHistory pm_InvalidHistory an_InvalidHistory (.ref cda_InvalidHistory) ct_InvalidHistory cc_InvalidHistory), sl_InvalidHistory⟩)
    (ld_InvalidHistory : K.lookup T_InvalidHistory = some ⟨ocT_InvalidHistory, odT_InvalidHistory, .seq #[.none] nT_InvalidHistory, slT_InvalidHistory⟩)
    (cd_InvalidHistory : PySem.W.codeIn K (.ref cda_InvalidHistory) "InvalidHistory.__init__" = true)
    (cr_InvalidHistory : K.lookup cda_InvalidHistory = some ⟨ccl_InvalidHistory, cdd_InvalidHistory, .fields vs_InvalidHistory, ccs_InvalidHistory⟩)
    (v2_InvalidHistory : vs_InvalidHistory[2]? = some (.str file_InvalidHistory tf_InvalidHistory))
    (fl_InvalidHistory : ((PySem.Challenge.rw_keptholes_k63_whole_writes_seen_in_part.prog.main.file : Str) == file_InvalidHistory) = true)
    (clc_InvalidHistory : K.lookup cc_InvalidHistory = some ⟨cl_InvalidHistory, cld_InvalidHistory, .cell (some (.ref C_InvalidHistory)), csl_InvalidHistory⟩)
    (al_InvalidHistory : PySem.W.ks_superIn K C_InvalidHistory C_InvalidHistory "__init__" = some (some (.builtin "ValueError.__init__")))
    (sV_InvalidHistory : PySem.W.subIn K (.ref C_InvalidHistory) (.type "ValueError") = some true)
    (eC_InvalidHistory : PySem.W.subIn K (.ref C_InvalidHistory) (.type "BaseException") = some true)
    (sC_InvalidHistory : PySem.W.mroIn K C_InvalidHistory (.ref C_InvalidHistory) = some true)
    (kC_InvalidHistory : PySem.W.keepIn K (.ref C_InvalidHistory) = true)
    (tC_InvalidHistory : PySem.W.typeIn K (.ref C_InvalidHistory) = some (.type "type"))
    (hC_InvalidHistory : PySem.W.hasDictIn K C_InvalidHistory = true)
    (iC_InvalidHistory : PySem.W.isClsIn K C_InvalidHistory = true)
    (s_InvalidHistory_InvalidHistory : PySem.W.subIn K (.ref C_InvalidHistory) (.ref C_InvalidHistory) = some true)
    (s_InvalidFile_InvalidNumber : PySem.W.subIn K (.ref C_InvalidFile) (.ref C_InvalidNumber) = some false)
    (s_InvalidFile_InvalidList : PySem.W.subIn K (.ref C_InvalidFile) (.ref C_InvalidList) = some false)
    (s_InvalidFile_InvalidWrite : PySem.W.subIn K (.ref C_InvalidFile) (.ref C_InvalidWrite) = some false)
    (s_InvalidFile_InvalidHistory : PySem.W.subIn K (.ref C_InvalidFile) (.ref C_InvalidHistory) = some false)
    (s_InvalidNumber_InvalidFile : PySem.W.subIn K (.ref C_InvalidNumber) (.ref C_InvalidFile) = some false)
    (s_InvalidNumber_InvalidList : PySem.W.subIn K (.ref C_InvalidNumber) (.ref C_InvalidList) = some false)
    (s_InvalidNumber_InvalidWrite : PySem.W.subIn K (.ref C_InvalidNumber) (.ref C_InvalidWrite) = some false)
    (s_InvalidNumber_InvalidHistory : PySem.W.subIn K (.ref C_InvalidNumber) (.ref C_InvalidHistory) = some false)
    (s_InvalidList_InvalidFile : PySem.W.subIn K (.ref C_InvalidList) (.ref C_InvalidFile) = some false)
    (s_InvalidList_InvalidNumber : PySem.W.subIn K (.ref C_InvalidList) (.ref C_InvalidNumber) = some false)
    (s_InvalidList_InvalidWrite : PySem.W.subIn K (.ref C_InvalidList) (.ref C_InvalidWrite) = some false)
    (s_InvalidList_InvalidHistory : PySem.W.subIn K (.ref C_InvalidList) (.ref C_InvalidHistory) = some false)
    (s_InvalidWrite_InvalidFile : PySem.W.subIn K (.ref C_InvalidWrite) (.ref C_InvalidFile) = some false)
    (s_InvalidWrite_InvalidNumber : PySem.W.subIn K (.ref C_InvalidWrite) (.ref C_InvalidNumber) = some false)
    (s_InvalidWrite_InvalidList : PySem.W.subIn K (.ref C_InvalidWrite) (.ref C_InvalidList) = some false)
    (s_InvalidWrite_InvalidHistory : PySem.W.subIn K (.ref C_InvalidWrite) (.ref C_InvalidHistory) = some false)
    (s_InvalidHistory_InvalidFile : PySem.W.subIn K (.ref C_InvalidHistory) (.ref C_InvalidFile) = some false)
    (s_InvalidHistory_InvalidNumber : PySem.W.subIn K (.ref C_InvalidHistory) (.ref C_InvalidNumber) = some false)
    (s_InvalidHistory_InvalidList : PySem.W.subIn K (.ref C_InvalidHistory) (.ref C_InvalidList) = some false)
    (s_InvalidHistory_InvalidWrite : PySem.W.subIn K (.ref C_InvalidHistory) (.ref C_InvalidWrite) = some false) :
    ∃ fd : FuncData, (∀ (s : Shared) (v : Value), BindsTo s fd ⟨[v], []⟩ [("script", v)]) ∧ ∀ base : Heap, K.In base → base.Ns mainGlobals mg → FnOk PySem.Challenge.rw_keptholes_k63_whole_writes_seen_in_part.prog w K mg base CX0 8 fa fd ["script"] (toSp K spLaw) := by
  have e := hfa.symm.trans (PySem.W.mg_of X G a_law)
  have e2 : f_law = fa := by injection e with e; injection e with e; exact e.symm
  subst e2
  let R : Prg K mg := {
    n_ValueError := (PySem.W.mg_none_of X G z_ValueError)
    n_bool := (PySem.W.mg_none_of X G z_bool)
    n_enumerate := (PySem.W.mg_none_of X G z_enumerate)
    n_int := (PySem.W.mg_none_of X G z_int)
    n_isinstance := (PySem.W.mg_none_of X G z_isinstance)
    n_iter := (PySem.W.mg_none_of X G z_iter)
    n_len := (PySem.W.mg_none_of X G z_len)
    n_list := (PySem.W.mg_none_of X G z_list)
    n_max := (PySem.W.mg_none_of X G z_max)
    n_min := (PySem.W.mg_none_of X G z_min)
    n_property := (PySem.W.mg_none_of X G z_property)
    n_range := (PySem.W.mg_none_of X G z_range)
    n_sorted := (PySem.W.mg_none_of X G z_sorted)
    n_str := (PySem.W.mg_none_of X G z_str)
    n_sum := (PySem.W.mg_none_of X G z_sum)
    n_super := (PySem.W.mg_none_of X G z_super)
    n_tuple := (PySem.W.mg_none_of X G z_tuple)
    tg_SIGNS := (tg_SIGNS)
    g_SIGNS := (PySem.W.mg_of X G g_SIGNS)
    C_File := (C_File)
    mc_File := (PySem.W.mg_of X G ac_File)
    C_History := (C_History)
    mc_History := (PySem.W.mg_of X G ac_History)
    f_is_whole := (f_is_whole)
    d_is_whole := (PySem.W.fnOf "is_whole" "is_whole" (defArgs s_is_whole) (defBody s_is_whole) (defScope s_is_whole) .none kV_is_whole dc_is_whole pm_is_whole an_is_whole cd_is_whole ct_is_whole)
    F_is_whole := (fun_mk (st := s_is_whole) l_is_whole c_is_whole k_is_whole)
    b_is_whole := ((fun_mk (st := s_is_whole) l_is_whole c_is_whole k_is_whole).binds (ps := P_is_whole) fun _ _ _ _ _ _ us hl => match us, hl with | [_], _ => rfl)
    m_is_whole := (PySem.W.mg_of X G a_is_whole)
    f_check_least := (f_check_least)
    d_check_least := (PySem.W.fnOf "check_least" "check_least" (defArgs s_check_least) (defBody s_check_least) (defScope s_check_least) .none kV_check_least dc_check_least pm_check_least an_check_least cd_check_least ct_check_least)
    F_check_least := (fun_mk (st := s_check_least) l_check_least c_check_least k_check_least)
    b_check_least := ((fun_mk (st := s_check_least) l_check_least c_check_least k_check_least).binds (ps := P_check_least) fun _ _ _ _ _ _ us hl => match us, hl with | [_, _], _ => rfl)
    m_check_least := (PySem.W.mg_of X G a_check_least)
    f_check_within := (f_check_within)
    d_check_within := (PySem.W.fnOf "check_within" "check_within" (defArgs s_check_within) (defBody s_check_within) (defScope s_check_within) .none kV_check_within dc_check_within pm_check_within an_check_within cd_check_within ct_check_within)
    F_check_within := (fun_mk (st := s_check_within) l_check_within c_check_within k_check_within)
    b_check_within := ((fun_mk (st := s_check_within) l_check_within c_check_within k_check_within).binds (ps := P_check_within) fun _ _ _ _ _ _ us hl => match us, hl with | [_, _, _], _ => rfl)
    m_check_within := (PySem.W.mg_of X G a_check_within)
    f_are_cells := (f_are_cells)
    d_are_cells := (PySem.W.fnOf "are_cells" "are_cells" (defArgs s_are_cells) (defBody s_are_cells) (defScope s_are_cells) .none kV_are_cells dc_are_cells pm_are_cells an_are_cells cd_are_cells ct_are_cells)
    F_are_cells := (fun_mk (st := s_are_cells) l_are_cells c_are_cells k_are_cells)
    b_are_cells := ((fun_mk (st := s_are_cells) l_are_cells c_are_cells k_are_cells).binds (ps := P_are_cells) fun _ _ _ _ _ _ us hl => match us, hl with | [_], _ => rfl)
    m_are_cells := (PySem.W.mg_of X G a_are_cells)
    f_is_content := (f_is_content)
    d_is_content := (PySem.W.fnOf "is_content" "is_content" (defArgs s_is_content) (defBody s_is_content) (defScope s_is_content) .none kV_is_content dc_is_content pm_is_content an_is_content cd_is_content ct_is_content)
    F_is_content := (fun_mk (st := s_is_content) l_is_content c_is_content k_is_content)
    b_is_content := ((fun_mk (st := s_is_content) l_is_content c_is_content k_is_content).binds (ps := P_is_content) fun _ _ _ _ _ _ us hl => match us, hl with | [_], _ => rfl)
    m_is_content := (PySem.W.mg_of X G a_is_content)
    f_check_file := (f_check_file)
    d_check_file := (PySem.W.fnOf "check_file" "check_file" (defArgs s_check_file) (defBody s_check_file) (defScope s_check_file) .none kV_check_file dc_check_file pm_check_file an_check_file cd_check_file ct_check_file)
    F_check_file := (fun_mk (st := s_check_file) l_check_file c_check_file k_check_file)
    b_check_file := ((fun_mk (st := s_check_file) l_check_file c_check_file k_check_file).binds (ps := P_check_file) fun _ _ _ _ _ _ us hl => match us, hl with | [_], _ => rfl)
    m_check_file := (PySem.W.mg_of X G a_check_file)
    f_blocks_of := (f_blocks_of)
    d_blocks_of := (PySem.W.fnOf "blocks_of" "blocks_of" (defArgs s_blocks_of) (defBody s_blocks_of) (defScope s_blocks_of) .none kV_blocks_of dc_blocks_of pm_blocks_of an_blocks_of cd_blocks_of ct_blocks_of)
    F_blocks_of := (fun_mk (st := s_blocks_of) l_blocks_of c_blocks_of k_blocks_of)
    b_blocks_of := ((fun_mk (st := s_blocks_of) l_blocks_of c_blocks_of k_blocks_of).binds (ps := P_blocks_of) fun _ _ _ _ _ _ us hl => match us, hl with | [_, _], _ => rfl)
    m_blocks_of := (PySem.W.mg_of X G a_blocks_of)
    f_is_write := (f_is_write)
    d_is_write := (PySem.W.fnOf "is_write" "is_write" (defArgs s_is_write) (defBody s_is_write) (defScope s_is_write) .none kV_is_write dc_is_write pm_is_write an_is_write cd_is_write ct_is_write)
    F_is_write := (fun_mk (st := s_is_write) l_is_write c_is_write k_is_write)
    b_is_write := ((fun_mk (st := s_is_write) l_is_write c_is_write k_is_write).binds (ps := P_is_write) fun _ _ _ _ _ _ us hl => match us, hl with | [_, _], _ => rfl)
    m_is_write := (PySem.W.mg_of X G a_is_write)
    f_check_write := (f_check_write)
    d_check_write := (PySem.W.fnOf "check_write" "check_write" (defArgs s_check_write) (defBody s_check_write) (defScope s_check_write) .none kV_check_write dc_check_write pm_check_write an_check_write cd_check_write ct_check_write)
    F_check_write := (fun_mk (st := s_check_write) l_check_write c_check_write k_check_write)
    b_check_write := ((fun_mk (st := s_check_write) l_check_write c_check_write k_check_write).binds (ps := P_check_write) fun _ _ _ _ _ _ us hl => match us, hl with | [_, _], _ => rfl)
    m_check_write := (PySem.W.mg_of X G a_check_write)
    f_written := (f_written)
    d_written := (PySem.W.fnOf "written" "written" (defArgs s_written) (defBody s_written) (defScope s_written) .none kV_written dc_written pm_written an_written cd_written ct_written)
    F_written := (fun_mk (st := s_written) l_written c_written k_written)
    b_written := ((fun_mk (st := s_written) l_written c_written k_written).binds (ps := P_written) fun _ _ _ _ _ _ us hl => match us, hl with | [_, _, _], _ => rfl)
    m_written := (PySem.W.mg_of X G a_written)
    f_check_history := (f_check_history)
    d_check_history := (PySem.W.fnOf "check_history" "check_history" (defArgs s_check_history) (defBody s_check_history) (defScope s_check_history) .none kV_check_history dc_check_history pm_check_history an_check_history cd_check_history ct_check_history)
    F_check_history := (fun_mk (st := s_check_history) l_check_history c_check_history k_check_history)
    b_check_history := ((fun_mk (st := s_check_history) l_check_history c_check_history k_check_history).binds (ps := P_check_history) fun _ _ _ _ _ _ us hl => match us, hl with | [_], _ => rfl)
    m_check_history := (PySem.W.mg_of X G a_check_history)
    f_check_asked := (f_check_asked)
    d_check_asked := (PySem.W.fnOf "check_asked" "check_asked" (defArgs s_check_asked) (defBody s_check_asked) (defScope s_check_asked) .none kV_check_asked dc_check_asked pm_check_asked an_check_asked cd_check_asked ct_check_asked)
    F_check_asked := (fun_mk (st := s_check_asked) l_check_asked c_check_asked k_check_asked)
    b_check_asked := ((fun_mk (st := s_check_asked) l_check_asked c_check_asked k_check_asked).binds (ps := P_check_asked) fun _ _ _ _ _ _ us hl => match us, hl with | [_, _], _ => rfl)
    m_check_asked := (PySem.W.mg_of X G a_check_asked)
    f_columns_of := (f_columns_of)
    d_columns_of := (PySem.W.fnOf "columns_of" "columns_of" (defArgs s_columns_of) (defBody s_columns_of) (defScope s_columns_of) .none kV_columns_of dc_columns_of pm_columns_of an_columns_of cd_columns_of ct_columns_of)
    F_columns_of := (fun_mk (st := s_columns_of) l_columns_of c_columns_of k_columns_of)
    b_columns_of := ((fun_mk (st := s_columns_of) l_columns_of c_columns_of k_columns_of).binds (ps := P_columns_of) fun _ _ _ _ _ _ us hl => match us, hl with | [_, _], _ => rfl)
    m_columns_of := (PySem.W.mg_of X G a_columns_of)
    f_columns_along := (f_columns_along)
    d_columns_along := (PySem.W.fnOf "columns_along" "columns_along" (defArgs s_columns_along) (defBody s_columns_along) (defScope s_columns_along) .none kV_columns_along dc_columns_along pm_columns_along an_columns_along cd_columns_along ct_columns_along)
    F_columns_along := (fun_mk (st := s_columns_along) l_columns_along c_columns_along k_columns_along)
    b_columns_along := ((fun_mk (st := s_columns_along) l_columns_along c_columns_along k_columns_along).binds (ps := P_columns_along) fun _ _ _ _ _ _ us hl => match us, hl with | [_, _, _], _ => rfl)
    m_columns_along := (PySem.W.mg_of X G a_columns_along)
    f_readings := (f_readings)
    d_readings := (PySem.W.fnOf "readings" "readings" (defArgs s_readings) (defBody s_readings) (defScope s_readings) .none kV_readings dc_readings pm_readings an_readings cd_readings ct_readings)
    F_readings := (fun_mk (st := s_readings) l_readings c_readings k_readings)
    b_readings := ((fun_mk (st := s_readings) l_readings c_readings k_readings).binds (ps := P_readings) fun _ _ _ _ _ _ us hl => match us, hl with | [_, _], _ => rfl)
    m_readings := (PySem.W.mg_of X G a_readings)
    f_counts_of := (f_counts_of)
    d_counts_of := (PySem.W.fnOf "counts_of" "counts_of" (defArgs s_counts_of) (defBody s_counts_of) (defScope s_counts_of) .none kV_counts_of dc_counts_of pm_counts_of an_counts_of cd_counts_of ct_counts_of)
    F_counts_of := (fun_mk (st := s_counts_of) l_counts_of c_counts_of k_counts_of)
    b_counts_of := ((fun_mk (st := s_counts_of) l_counts_of c_counts_of k_counts_of).binds (ps := P_counts_of) fun _ _ _ _ _ _ us hl => match us, hl with | [_, _], _ => rfl)
    m_counts_of := (PySem.W.mg_of X G a_counts_of)
    f_content_of := (f_content_of)
    d_content_of := (PySem.W.fnOf "content_of" "content_of" (defArgs s_content_of) (defBody s_content_of) (defScope s_content_of) .none kV_content_of dc_content_of pm_content_of an_content_of cd_content_of ct_content_of)
    F_content_of := (fun_mk (st := s_content_of) l_content_of c_content_of k_content_of)
    b_content_of := ((fun_mk (st := s_content_of) l_content_of c_content_of k_content_of).binds (ps := P_content_of) fun _ _ _ _ _ _ us hl => match us, hl with | [_, _, _], _ => rfl)
    m_content_of := (PySem.W.mg_of X G a_content_of)
    f_torn_within := (f_torn_within)
    d_torn_within := (PySem.W.fnOf "torn_within" "torn_within" (defArgs s_torn_within) (defBody s_torn_within) (defScope s_torn_within) .none kV_torn_within dc_torn_within pm_torn_within an_torn_within cd_torn_within ct_torn_within)
    F_torn_within := (fun_mk (st := s_torn_within) l_torn_within c_torn_within k_torn_within)
    b_torn_within := ((fun_mk (st := s_torn_within) l_torn_within c_torn_within k_torn_within).binds (ps := P_torn_within) fun _ _ _ _ _ _ us hl => match us, hl with | [_, _, _, _, _], _ => rfl)
    m_torn_within := (PySem.W.mg_of X G a_torn_within)
    tk0_torn_copy := (tk0_torn_copy)
    f_torn_copy := (f_torn_copy)
    d_torn_copy := (PySem.W.fnOf "torn_copy" "torn_copy" (defArgs s_torn_copy) (defBody s_torn_copy) (defScope s_torn_copy) (.ref T_torn_copy) (.ref KD_torn_copy) dc_torn_copy pm_torn_copy an_torn_copy cd_torn_copy ct_torn_copy)
    F_torn_copy := (⟨⟨oc_torn_copy, od_torn_copy, (.ref T_torn_copy), (.ref KD_torn_copy), dc_torn_copy, pm_torn_copy, an_torn_copy, cd_torn_copy, ct_torn_copy, sl_torn_copy, rfl, l_torn_copy, c_torn_copy⟩, k_torn_copy⟩)
    kb_torn_copy_2_ := (⟨fun s us ws X h1 h2 => match us, h1, ws, h2 with | [_, _], _, [], _ => binds_dk X ld_torn_copy rfl rfl (hk1 kd_torn_copy_down) ⟨_, _, _, _, _, _, rfl, rfl, rfl⟩, okc (trivial) (okc (trivial) (okc (⟨fun _ => den_int, ⟨_, rfl⟩⟩) (okc (⟨fun _ => den_non, rfl⟩) (okc (⟨fun _ => den_bl, rfl⟩) (okn)))))⟩)
    kb_torn_copy_4_down := (⟨fun s us ws X h1 h2 => match us, h1, ws, h2 with | [_, _, _, _], _, [_], _ => binds_d X ld_torn_copy rfl rfl rfl, okc (trivial) (okc (trivial) (okc (trivial) (okc (trivial) (okc (trivial) (okn)))))⟩)
    m_torn_copy := (PySem.W.mg_of X G a_torn_copy)
    f_parted := (f_parted)
    d_parted := (PySem.W.fnOf "parted" "parted" (defArgs s_parted) (defBody s_parted) (defScope s_parted) .none kV_parted dc_parted pm_parted an_parted cd_parted ct_parted)
    F_parted := (fun_mk (st := s_parted) l_parted c_parted k_parted)
    b_parted := ((fun_mk (st := s_parted) l_parted c_parted k_parted).binds (ps := P_parted) fun _ _ _ _ _ _ us hl => match us, hl with | [_, _, _], _ => rfl)
    m_parted := (PySem.W.mg_of X G a_parted)
    f_holds := (f_holds)
    d_holds := (PySem.W.fnOf "holds" "holds" (defArgs s_holds) (defBody s_holds) (defScope s_holds) .none (.ref KD_holds) dc_holds pm_holds an_holds cd_holds ct_holds)
    F_holds := (fun_mk (st := s_holds) l_holds c_holds k_holds)
    kb_holds_2_ := (⟨fun s us ws X h1 h2 => match us, h1, ws, h2 with | [_, _], _, [], _ => binds_k X (hk1 kd_holds_down) ⟨_, _, _, _, _, _, rfl, rfl, rfl⟩, okc (trivial) (okc (trivial) (okc (⟨fun _ => den_bl, rfl⟩) (okn)))⟩)
    kb_holds_2_down := (⟨fun s us ws X h1 h2 => match us, h1, ws, h2 with | [_, _], _, [_], _ => BindsTo.of_eq rfl, okc (trivial) (okc (trivial) (okc (trivial) (okn)))⟩)
    m_holds := (PySem.W.mg_of X G a_holds)
    f_windows := (f_windows)
    d_windows := (PySem.W.fnOf "windows" "windows" (defArgs s_windows) (defBody s_windows) (defScope s_windows) .none (.ref KD_windows) dc_windows pm_windows an_windows cd_windows ct_windows)
    F_windows := (fun_mk (st := s_windows) l_windows c_windows k_windows)
    kb_windows_2_ := (⟨fun s us ws X h1 h2 => match us, h1, ws, h2 with | [_, _], _, [], _ => binds_k X (hk1 kd_windows_down) ⟨_, _, _, _, _, _, rfl, rfl, rfl⟩, okc (trivial) (okc (trivial) (okc (⟨fun _ => den_bl, rfl⟩) (okn)))⟩)
    kb_windows_2_down := (⟨fun s us ws X h1 h2 => match us, h1, ws, h2 with | [_, _], _, [_], _ => BindsTo.of_eq rfl, okc (trivial) (okc (trivial) (okc (trivial) (okn)))⟩)
    m_windows := (PySem.W.mg_of X G a_windows)
    f_law_spring := (f_law_spring)
    d_law_spring := (PySem.W.fnOf "_law_spring" "_law_spring" (defArgs s_law_spring) (defBody s_law_spring) (defScope s_law_spring) .none kV_law_spring dc_law_spring pm_law_spring an_law_spring cd_law_spring ct_law_spring)
    F_law_spring := (fun_mk (st := s_law_spring) l_law_spring c_law_spring k_law_spring)
    b_law_spring := ((fun_mk (st := s_law_spring) l_law_spring c_law_spring k_law_spring).binds (ps := P_law_spring) fun _ _ _ _ _ _ us hl => match us, hl with | [_, _], _ => rfl)
    m_law_spring := (PySem.W.mg_of X G a_law_spring)
    f_law_sip := (f_law_sip)
    d_law_sip := (PySem.W.fnOf "_law_sip" "_law_sip" (defArgs s_law_sip) (defBody s_law_sip) (defScope s_law_sip) .none kV_law_sip dc_law_sip pm_law_sip an_law_sip cd_law_sip ct_law_sip)
    F_law_sip := (fun_mk (st := s_law_sip) l_law_sip c_law_sip k_law_sip)
    b_law_sip := ((fun_mk (st := s_law_sip) l_law_sip c_law_sip k_law_sip).binds (ps := P_law_sip) fun _ _ _ _ _ _ us hl => match us, hl with | [_, _], _ => rfl)
    m_law_sip := (PySem.W.mg_of X G a_law_sip)
    f_law_cells := (f_law_cells)
    d_law_cells := (PySem.W.fnOf "_law_cells" "_law_cells" (defArgs s_law_cells) (defBody s_law_cells) (defScope s_law_cells) .none kV_law_cells dc_law_cells pm_law_cells an_law_cells cd_law_cells ct_law_cells)
    F_law_cells := (fun_mk (st := s_law_cells) l_law_cells c_law_cells k_law_cells)
    b_law_cells := ((fun_mk (st := s_law_cells) l_law_cells c_law_cells k_law_cells).binds (ps := P_law_cells) fun _ _ _ _ _ _ us hl => match us, hl with | [_, _], _ => rfl)
    m_law_cells := (PySem.W.mg_of X G a_law_cells)
    f_law_text := (f_law_text)
    d_law_text := (PySem.W.fnOf "_law_text" "_law_text" (defArgs s_law_text) (defBody s_law_text) (defScope s_law_text) .none kV_law_text dc_law_text pm_law_text an_law_text cd_law_text ct_law_text)
    F_law_text := (fun_mk (st := s_law_text) l_law_text c_law_text k_law_text)
    b_law_text := ((fun_mk (st := s_law_text) l_law_text c_law_text k_law_text).binds (ps := P_law_text) fun _ _ _ _ _ _ us hl => match us, hl with | [_, _], _ => rfl)
    m_law_text := (PySem.W.mg_of X G a_law_text)
    f_law_writes := (f_law_writes)
    d_law_writes := (PySem.W.fnOf "_law_writes" "_law_writes" (defArgs s_law_writes) (defBody s_law_writes) (defScope s_law_writes) .none kV_law_writes dc_law_writes pm_law_writes an_law_writes cd_law_writes ct_law_writes)
    F_law_writes := (fun_mk (st := s_law_writes) l_law_writes c_law_writes k_law_writes)
    b_law_writes := ((fun_mk (st := s_law_writes) l_law_writes c_law_writes k_law_writes).binds (ps := P_law_writes) fun _ _ _ _ _ _ us hl => match us, hl with | [_, _, _], _ => rfl)
    m_law_writes := (PySem.W.mg_of X G a_law_writes)
    f_law_states := (f_law_states)
    d_law_states := (PySem.W.fnOf "_law_states" "_law_states" (defArgs s_law_states) (defBody s_law_states) (defScope s_law_states) .none kV_law_states dc_law_states pm_law_states an_law_states cd_law_states ct_law_states)
    F_law_states := (fun_mk (st := s_law_states) l_law_states c_law_states k_law_states)
    b_law_states := ((fun_mk (st := s_law_states) l_law_states c_law_states k_law_states).binds (ps := P_law_states) fun _ _ _ _ _ _ us hl => match us, hl with | [_, _], _ => rfl)
    m_law_states := (PySem.W.mg_of X G a_law_states)
    f_law_seen := (f_law_seen)
    d_law_seen := (PySem.W.fnOf "_law_seen" "_law_seen" (defArgs s_law_seen) (defBody s_law_seen) (defScope s_law_seen) .none kV_law_seen dc_law_seen pm_law_seen an_law_seen cd_law_seen ct_law_seen)
    F_law_seen := (fun_mk (st := s_law_seen) l_law_seen c_law_seen k_law_seen)
    b_law_seen := ((fun_mk (st := s_law_seen) l_law_seen c_law_seen k_law_seen).binds (ps := P_law_seen) fun _ _ _ _ _ _ us hl => match us, hl with | [_, _, _, _], _ => rfl)
    m_law_seen := (PySem.W.mg_of X G a_law_seen)
    f_law_right := (f_law_right)
    d_law_right := (PySem.W.fnOf "_law_right" "_law_right" (defArgs s_law_right) (defBody s_law_right) (defScope s_law_right) .none kV_law_right dc_law_right pm_law_right an_law_right cd_law_right ct_law_right)
    F_law_right := (fun_mk (st := s_law_right) l_law_right c_law_right k_law_right)
    b_law_right := ((fun_mk (st := s_law_right) l_law_right c_law_right k_law_right).binds (ps := P_law_right) fun _ _ _ _ _ _ us hl => match us, hl with | [_, _, _, _], _ => rfl)
    m_law_right := (PySem.W.mg_of X G a_law_right)
    f_law := (f_law)
    d_law := (PySem.W.fnOf "law" "law" (defArgs s_law) (defBody s_law) (defScope s_law) .none kV_law dc_law pm_law an_law cd_law ct_law)
    F_law := (fun_mk (st := s_law) l_law c_law k_law)
    b_law := ((fun_mk (st := s_law) l_law c_law k_law).binds (ps := P_law) fun _ _ _ _ _ _ us hl => match us, hl with | [_], _ => rfl)
    m_law := (PySem.W.mg_of X G a_law)
    tk0_File_init := (tk0_File_init)
    f_File_init := (f_File_init)
    d_File_init := (PySem.W.fnOf "__init__" "File.__init__" (defArgs s_File_init) (defBody s_File_init) (defScope s_File_init) (.ref T_File_init) kV_File_init dc_File_init pm_File_init an_File_init cd_File_init ct_File_init)
    F_File_init := (⟨⟨oc_File_init, od_File_init, (.ref T_File_init), kV_File_init, dc_File_init, pm_File_init, an_File_init, cd_File_init, ct_File_init, sl_File_init, rfl, l_File_init, c_File_init⟩, k_File_init⟩)
    b_File_init := (fun s us X hl => match us, hl with | [_, _], _ => BindsTo.of_defaults (T := T_File_init) rfl (X _ _ ld_File_init) rfl rfl rfl)
    b1_File_init := (fun s us X hl => match us, (show us.length = 1 by simpa using hl) with | [_], _ => BindsTo.of_defaults (T := T_File_init) rfl (X _ _ ld_File_init) rfl rfl rfl)
    M_File_init := (⟨a_File_init, i_File_init, k_File_init⟩)
    f_File_cells := (f_File_cells)
    d_File_cells := (PySem.W.fnOf "cells" "File.cells" (defArgs s_File_cells) (defBody s_File_cells) (defScope s_File_cells) .none kV_File_cells dc_File_cells pm_File_cells an_File_cells cd_File_cells ct_File_cells)
    F_File_cells := (fun_mk (st := s_File_cells) l_File_cells c_File_cells k_File_cells)
    b_File_cells := ((fun_mk (st := s_File_cells) l_File_cells c_File_cells k_File_cells).binds (ps := P_File_cells) fun _ _ _ _ _ _ us hl => match us, hl with | [_], _ => rfl)
    pr_File_cells := pr_File_cells
    V_File_cells := (⟨pa_File_cells, pb_File_cells, pc_File_cells, ⟨rs_File_cells, pd_File_cells⟩⟩)
    f_File_content := (f_File_content)
    d_File_content := (PySem.W.fnOf "content" "File.content" (defArgs s_File_content) (defBody s_File_content) (defScope s_File_content) .none kV_File_content dc_File_content pm_File_content an_File_content cd_File_content ct_File_content)
    F_File_content := (fun_mk (st := s_File_content) l_File_content c_File_content k_File_content)
    b_File_content := ((fun_mk (st := s_File_content) l_File_content c_File_content k_File_content).binds (ps := P_File_content) fun _ _ _ _ _ _ us hl => match us, hl with | [_], _ => rfl)
    pr_File_content := pr_File_content
    V_File_content := (⟨pa_File_content, pb_File_content, pc_File_content, ⟨rs_File_content, pd_File_content⟩⟩)
    f_File_len := (f_File_len)
    d_File_len := (PySem.W.fnOf "__len__" "File.__len__" (defArgs s_File_len) (defBody s_File_len) (defScope s_File_len) .none kV_File_len dc_File_len pm_File_len an_File_len cd_File_len ct_File_len)
    F_File_len := (fun_mk (st := s_File_len) l_File_len c_File_len k_File_len)
    b_File_len := ((fun_mk (st := s_File_len) l_File_len c_File_len k_File_len).binds (ps := P_File_len) fun _ _ _ _ _ _ us hl => match us, hl with | [_], _ => rfl)
    M_File_len := (⟨a_File_len, i_File_len, k_File_len⟩)
    f_File_iter := (f_File_iter)
    d_File_iter := (PySem.W.fnOf "__iter__" "File.__iter__" (defArgs s_File_iter) (defBody s_File_iter) (defScope s_File_iter) .none kV_File_iter dc_File_iter pm_File_iter an_File_iter cd_File_iter ct_File_iter)
    F_File_iter := (fun_mk (st := s_File_iter) l_File_iter c_File_iter k_File_iter)
    b_File_iter := ((fun_mk (st := s_File_iter) l_File_iter c_File_iter k_File_iter).binds (ps := P_File_iter) fun _ _ _ _ _ _ us hl => match us, hl with | [_], _ => rfl)
    M_File_iter := (⟨a_File_iter, i_File_iter, k_File_iter⟩)
    f_File_getitem := (f_File_getitem)
    d_File_getitem := (PySem.W.fnOf "__getitem__" "File.__getitem__" (defArgs s_File_getitem) (defBody s_File_getitem) (defScope s_File_getitem) .none kV_File_getitem dc_File_getitem pm_File_getitem an_File_getitem cd_File_getitem ct_File_getitem)
    F_File_getitem := (fun_mk (st := s_File_getitem) l_File_getitem c_File_getitem k_File_getitem)
    b_File_getitem := ((fun_mk (st := s_File_getitem) l_File_getitem c_File_getitem k_File_getitem).binds (ps := P_File_getitem) fun _ _ _ _ _ _ us hl => match us, hl with | [_, _], _ => rfl)
    M_File_getitem := (⟨a_File_getitem, i_File_getitem, k_File_getitem⟩)
    f_File_eq := (f_File_eq)
    d_File_eq := (PySem.W.fnOf "__eq__" "File.__eq__" (defArgs s_File_eq) (defBody s_File_eq) (defScope s_File_eq) .none kV_File_eq dc_File_eq pm_File_eq an_File_eq cd_File_eq ct_File_eq)
    F_File_eq := (fun_mk (st := s_File_eq) l_File_eq c_File_eq k_File_eq)
    b_File_eq := ((fun_mk (st := s_File_eq) l_File_eq c_File_eq k_File_eq).binds (ps := P_File_eq) fun _ _ _ _ _ _ us hl => match us, hl with | [_, _], _ => rfl)
    M_File_eq := (⟨a_File_eq, i_File_eq, k_File_eq⟩)
    f_History_init := (f_History_init)
    d_History_init := (PySem.W.fnOf "__init__" "History.__init__" (defArgs s_History_init) (defBody s_History_init) (defScope s_History_init) (.ref T_History_init) kV_History_init dc_History_init pm_History_init an_History_init cd_History_init ct_History_init)
    F_History_init := (⟨⟨oc_History_init, od_History_init, (.ref T_History_init), kV_History_init, dc_History_init, pm_History_init, an_History_init, cd_History_init, ct_History_init, sl_History_init, rfl, l_History_init, c_History_init⟩, k_History_init⟩)
    b_History_init := (fun s us X hl => match us, hl with | [_, _, _], _ => BindsTo.of_defaults (T := T_History_init) rfl (X _ _ ld_History_init) rfl rfl rfl)
    b1_History_init := (fun s us X hl => match us, (show us.length = 2 by simpa using hl) with | [_, _], _ => BindsTo.of_defaults (T := T_History_init) rfl (X _ _ ld_History_init) rfl rfl rfl)
    M_History_init := (⟨a_History_init, i_History_init, k_History_init⟩)
    f_History_file := (f_History_file)
    d_History_file := (PySem.W.fnOf "file" "History.file" (defArgs s_History_file) (defBody s_History_file) (defScope s_History_file) .none kV_History_file dc_History_file pm_History_file an_History_file cd_History_file ct_History_file)
    F_History_file := (fun_mk (st := s_History_file) l_History_file c_History_file k_History_file)
    b_History_file := ((fun_mk (st := s_History_file) l_History_file c_History_file k_History_file).binds (ps := P_History_file) fun _ _ _ _ _ _ us hl => match us, hl with | [_], _ => rfl)
    pr_History_file := pr_History_file
    V_History_file := (⟨pa_History_file, pb_History_file, pc_History_file, ⟨rs_History_file, pd_History_file⟩⟩)
    f_History_len := (f_History_len)
    d_History_len := (PySem.W.fnOf "__len__" "History.__len__" (defArgs s_History_len) (defBody s_History_len) (defScope s_History_len) .none kV_History_len dc_History_len pm_History_len an_History_len cd_History_len ct_History_len)
    F_History_len := (fun_mk (st := s_History_len) l_History_len c_History_len k_History_len)
    b_History_len := ((fun_mk (st := s_History_len) l_History_len c_History_len k_History_len).binds (ps := P_History_len) fun _ _ _ _ _ _ us hl => match us, hl with | [_], _ => rfl)
    M_History_len := (⟨a_History_len, i_History_len, k_History_len⟩)
    f_History_iter := (f_History_iter)
    d_History_iter := (PySem.W.fnOf "__iter__" "History.__iter__" (defArgs s_History_iter) (defBody s_History_iter) (defScope s_History_iter) .none kV_History_iter dc_History_iter pm_History_iter an_History_iter cd_History_iter ct_History_iter)
    F_History_iter := (fun_mk (st := s_History_iter) l_History_iter c_History_iter k_History_iter)
    b_History_iter := ((fun_mk (st := s_History_iter) l_History_iter c_History_iter k_History_iter).binds (ps := P_History_iter) fun _ _ _ _ _ _ us hl => match us, hl with | [_], _ => rfl)
    M_History_iter := (⟨a_History_iter, i_History_iter, k_History_iter⟩)
    f_History_getitem := (f_History_getitem)
    d_History_getitem := (PySem.W.fnOf "__getitem__" "History.__getitem__" (defArgs s_History_getitem) (defBody s_History_getitem) (defScope s_History_getitem) .none kV_History_getitem dc_History_getitem pm_History_getitem an_History_getitem cd_History_getitem ct_History_getitem)
    F_History_getitem := (fun_mk (st := s_History_getitem) l_History_getitem c_History_getitem k_History_getitem)
    b_History_getitem := ((fun_mk (st := s_History_getitem) l_History_getitem c_History_getitem k_History_getitem).binds (ps := P_History_getitem) fun _ _ _ _ _ _ us hl => match us, hl with | [_, _], _ => rfl)
    M_History_getitem := (⟨a_History_getitem, i_History_getitem, k_History_getitem⟩)
    f_History_iadd := (f_History_iadd)
    d_History_iadd := (PySem.W.fnOf "__iadd__" "History.__iadd__" (defArgs s_History_iadd) (defBody s_History_iadd) (defScope s_History_iadd) .none kV_History_iadd dc_History_iadd pm_History_iadd an_History_iadd cd_History_iadd ct_History_iadd)
    F_History_iadd := (fun_mk (st := s_History_iadd) l_History_iadd c_History_iadd k_History_iadd)
    b_History_iadd := ((fun_mk (st := s_History_iadd) l_History_iadd c_History_iadd k_History_iadd).binds (ps := P_History_iadd) fun _ _ _ _ _ _ us hl => match us, hl with | [_, _], _ => rfl)
    M_History_iadd := (⟨a_History_iadd, i_History_iadd, k_History_iadd⟩)
    f_History_eq := (f_History_eq)
    d_History_eq := (PySem.W.fnOf "__eq__" "History.__eq__" (defArgs s_History_eq) (defBody s_History_eq) (defScope s_History_eq) .none kV_History_eq dc_History_eq pm_History_eq an_History_eq cd_History_eq ct_History_eq)
    F_History_eq := (fun_mk (st := s_History_eq) l_History_eq c_History_eq k_History_eq)
    b_History_eq := ((fun_mk (st := s_History_eq) l_History_eq c_History_eq k_History_eq).binds (ps := P_History_eq) fun _ _ _ _ _ _ us hl => match us, hl with | [_, _], _ => rfl)
    M_History_eq := (⟨a_History_eq, i_History_eq, k_History_eq⟩)
    f_History_states := (f_History_states)
    d_History_states := (PySem.W.fnOf "states" "History.states" (defArgs s_History_states) (defBody s_History_states) (defScope s_History_states) .none kV_History_states dc_History_states pm_History_states an_History_states cd_History_states ct_History_states)
    F_History_states := (fun_mk (st := s_History_states) l_History_states c_History_states k_History_states)
    b_History_states := ((fun_mk (st := s_History_states) l_History_states c_History_states k_History_states).binds (ps := P_History_states) fun _ _ _ _ _ _ us hl => match us, hl with | [_], _ => rfl)
    M_History_states := (⟨a_History_states, i_History_states, k_History_states⟩)
    f_History_at := (f_History_at)
    d_History_at := (PySem.W.fnOf "at" "History.at" (defArgs s_History_at) (defBody s_History_at) (defScope s_History_at) .none kV_History_at dc_History_at pm_History_at an_History_at cd_History_at ct_History_at)
    F_History_at := (fun_mk (st := s_History_at) l_History_at c_History_at k_History_at)
    b_History_at := ((fun_mk (st := s_History_at) l_History_at c_History_at k_History_at).binds (ps := P_History_at) fun _ _ _ _ _ _ us hl => match us, hl with | [_, _], _ => rfl)
    M_History_at := (⟨a_History_at, i_History_at, k_History_at⟩)
    f_History_copy := (f_History_copy)
    d_History_copy := (PySem.W.fnOf "copy" "History.copy" (defArgs s_History_copy) (defBody s_History_copy) (defScope s_History_copy) .none kV_History_copy dc_History_copy pm_History_copy an_History_copy cd_History_copy ct_History_copy)
    F_History_copy := (fun_mk (st := s_History_copy) l_History_copy c_History_copy k_History_copy)
    b_History_copy := ((fun_mk (st := s_History_copy) l_History_copy c_History_copy k_History_copy).binds (ps := P_History_copy) fun _ _ _ _ _ _ us hl => match us, hl with | [_], _ => rfl)
    M_History_copy := (⟨a_History_copy, i_History_copy, k_History_copy⟩)
    L_File := (⟨⟨pg_File, hd_File, po_File, sa_File⟩, ha_File, ohn, otk, mr_File⟩)
    K_File := (⟨mk_File, a_File_init, i_File_init, kc_File⟩)
    A_File_row := (na_File_row)
    L_History := (⟨⟨pg_History, hd_History, po_History, sa_History⟩, ha_History, ohn, otk, mr_History⟩)
    K_History := (⟨mk_History, a_History_init, i_History_init, kc_History⟩)
    A_History_start := (na_History_start)
    A_History_rows := (na_History_rows)
    ic_File := (ic_File)
    tc_File := (tc_File)
    ic_History := (ic_History)
    tc_History := (tc_History)
    ne_File := (ne_File)
    fi_File_getitem := (fi_File_getitem)
    ne_History := (ne_History)
    fi_History_getitem := (fi_History_getitem)
    s_File_File := (kit_self)
    s_File_History := (kit_rr2 ic_History tc_History ms_File s_File_History)
    si_File_bool := (s_File_bool)
    si_File_int := (s_File_int)
    si_File_list := (s_File_list)
    si_File_str := (s_File_str)
    si_File_tuple := (s_File_tuple)
    nf_History_File := (nf_History_File)
    s_History_File := (kit_rr2 ic_File tc_File ms_History s_History_File)
    s_History_History := (kit_self)
    si_History_bool := (s_History_bool)
    si_History_int := (s_History_int)
    si_History_list := (s_History_list)
    si_History_str := (s_History_str)
    si_History_tuple := (s_History_tuple)
    nf_File_History := (nf_File_History)
    C_InvalidFile := (C_InvalidFile)
    I_InvalidFile := (I_InvalidFile)
    mc_InvalidFile := (PySem.W.mg_of X G ac_InvalidFile)
    S_InvalidFile := ({ T := ⟨⟨nm_InvalidFile, q_InvalidFile, NN_InvalidFile, bs_InvalidFile, _, sn_InvalidFile, sub_InvalidFile, ab_InvalidFile, col_InvalidFile, dd_InvalidFile, m0_InvalidFile, m1_InvalidFile, m2_InvalidFile, m3_InvalidFile, m5_InvalidFile, xL_InvalidFile, by first | rfl | decide +kernel⟩, sa_InvalidFile, eC_InvalidFile, tC_InvalidFile, kC_InvalidFile⟩, iC := i_InvalidFile, tI := t_InvalidFile, nf := nb_InvalidFile, al := al_InvalidFile, sV := sV_InvalidFile, sC := sC_InvalidFile, op := zop, tp := by decide +kernel, ne := by decide, nd := by decide, fn := ⟨oc_InvalidFile, od_InvalidFile, sl_InvalidFile, "__init__", "InvalidFile.__init__", defArgs si_InvalidFile, defScope si_InvalidFile, .ref T_InvalidFile, kV_InvalidFile, dc_InvalidFile, pm_InvalidFile, an_InvalidFile, cda_InvalidFile, ct_InvalidFile, cc_InvalidFile, ⟨10, 8, 10, 13⟩, ⟨10, 8, 10, 15⟩, ⟨10, 8, 10, 24⟩, ⟨10, 25, 10, 30⟩, ⟨10, 8, 10, 31⟩, ⟨10, 8, 10, 31⟩, ⟨11, 8, 11, 12⟩, ⟨11, 8, 11, 18⟩, ⟨11, 21, 11, 26⟩, ⟨11, 8, 11, 26⟩, { arg := "self", annotation := none, pos := ⟨9, 17, 9, 21⟩ }, ccl_InvalidFile, cdd_InvalidFile, vs_InvalidFile, ccs_InvalidFile, file_InvalidFile, tf_InvalidFile, cl_InvalidFile, cld_InvalidFile, csl_InvalidFile, l_InvalidFile, cd_InvalidFile, by rfl, by rfl, by rfl, by rfl, by rfl, by decide +kernel, by rfl, by rfl, by rfl, by rfl, cr_InvalidFile, v2_InvalidFile, fl_InvalidFile, clc_InvalidFile, (fun s us X hl => match us, hl with | [_, _], _ => BindsTo.of_defaults (T := T_InvalidFile) rfl (X _ _ ld_InvalidFile) rfl rfl rfl), fun _ => ⟨_, rfl⟩⟩ })
    x_InvalidFile := (⟨ga_InvalidFile, gg_InvalidFile, eC_InvalidFile, hC_InvalidFile⟩)
    e_InvalidFile_InvalidFile := (exm_of eC_InvalidFile iC_InvalidFile tC_InvalidFile s_InvalidFile_InvalidFile)
    C_InvalidNumber := (C_InvalidNumber)
    I_InvalidNumber := (I_InvalidNumber)
    mc_InvalidNumber := (PySem.W.mg_of X G ac_InvalidNumber)
    S_InvalidNumber := ({ T := ⟨⟨nm_InvalidNumber, q_InvalidNumber, NN_InvalidNumber, bs_InvalidNumber, _, sn_InvalidNumber, sub_InvalidNumber, ab_InvalidNumber, col_InvalidNumber, dd_InvalidNumber, m0_InvalidNumber, m1_InvalidNumber, m2_InvalidNumber, m3_InvalidNumber, m5_InvalidNumber, xL_InvalidNumber, by first | rfl | decide +kernel⟩, sa_InvalidNumber, eC_InvalidNumber, tC_InvalidNumber, kC_InvalidNumber⟩, iC := i_InvalidNumber, tI := t_InvalidNumber, nf := nb_InvalidNumber, al := al_InvalidNumber, sV := sV_InvalidNumber, sC := sC_InvalidNumber, op := zop, tp := by decide +kernel, ne := by decide, nd := by decide, fn := ⟨oc_InvalidNumber, od_InvalidNumber, sl_InvalidNumber, "__init__", "InvalidNumber.__init__", defArgs si_InvalidNumber, defScope si_InvalidNumber, .ref T_InvalidNumber, kV_InvalidNumber, dc_InvalidNumber, pm_InvalidNumber, an_InvalidNumber, cda_InvalidNumber, ct_InvalidNumber, cc_InvalidNumber, ⟨15, 8, 15, 13⟩, ⟨15, 8, 15, 15⟩, ⟨15, 8, 15, 24⟩, ⟨15, 25, 15, 30⟩, ⟨15, 8, 15, 31⟩, ⟨15, 8, 15, 31⟩, ⟨16, 8, 16, 12⟩, ⟨16, 8, 16, 18⟩, ⟨16, 21, 16, 26⟩, ⟨16, 8, 16, 26⟩, { arg := "self", annotation := none, pos := ⟨14, 17, 14, 21⟩ }, ccl_InvalidNumber, cdd_InvalidNumber, vs_InvalidNumber, ccs_InvalidNumber, file_InvalidNumber, tf_InvalidNumber, cl_InvalidNumber, cld_InvalidNumber, csl_InvalidNumber, l_InvalidNumber, cd_InvalidNumber, by rfl, by rfl, by rfl, by rfl, by rfl, by decide +kernel, by rfl, by rfl, by rfl, by rfl, cr_InvalidNumber, v2_InvalidNumber, fl_InvalidNumber, clc_InvalidNumber, (fun s us X hl => match us, hl with | [_, _], _ => BindsTo.of_defaults (T := T_InvalidNumber) rfl (X _ _ ld_InvalidNumber) rfl rfl rfl), fun _ => ⟨_, rfl⟩⟩ })
    x_InvalidNumber := (⟨ga_InvalidNumber, gg_InvalidNumber, eC_InvalidNumber, hC_InvalidNumber⟩)
    e_InvalidNumber_InvalidNumber := (exm_of eC_InvalidNumber iC_InvalidNumber tC_InvalidNumber s_InvalidNumber_InvalidNumber)
    C_InvalidList := (C_InvalidList)
    I_InvalidList := (I_InvalidList)
    mc_InvalidList := (PySem.W.mg_of X G ac_InvalidList)
    S_InvalidList := ({ T := ⟨⟨nm_InvalidList, q_InvalidList, NN_InvalidList, bs_InvalidList, _, sn_InvalidList, sub_InvalidList, ab_InvalidList, col_InvalidList, dd_InvalidList, m0_InvalidList, m1_InvalidList, m2_InvalidList, m3_InvalidList, m5_InvalidList, xL_InvalidList, by first | rfl | decide +kernel⟩, sa_InvalidList, eC_InvalidList, tC_InvalidList, kC_InvalidList⟩, iC := i_InvalidList, tI := t_InvalidList, nf := nb_InvalidList, al := al_InvalidList, sV := sV_InvalidList, sC := sC_InvalidList, op := zop, tp := by decide +kernel, ne := by decide, nd := by decide, fn := ⟨oc_InvalidList, od_InvalidList, sl_InvalidList, "__init__", "InvalidList.__init__", defArgs si_InvalidList, defScope si_InvalidList, .ref T_InvalidList, kV_InvalidList, dc_InvalidList, pm_InvalidList, an_InvalidList, cda_InvalidList, ct_InvalidList, cc_InvalidList, ⟨20, 8, 20, 13⟩, ⟨20, 8, 20, 15⟩, ⟨20, 8, 20, 24⟩, ⟨20, 25, 20, 30⟩, ⟨20, 8, 20, 31⟩, ⟨20, 8, 20, 31⟩, ⟨21, 8, 21, 12⟩, ⟨21, 8, 21, 18⟩, ⟨21, 21, 21, 26⟩, ⟨21, 8, 21, 26⟩, { arg := "self", annotation := none, pos := ⟨19, 17, 19, 21⟩ }, ccl_InvalidList, cdd_InvalidList, vs_InvalidList, ccs_InvalidList, file_InvalidList, tf_InvalidList, cl_InvalidList, cld_InvalidList, csl_InvalidList, l_InvalidList, cd_InvalidList, by rfl, by rfl, by rfl, by rfl, by rfl, by decide +kernel, by rfl, by rfl, by rfl, by rfl, cr_InvalidList, v2_InvalidList, fl_InvalidList, clc_InvalidList, (fun s us X hl => match us, hl with | [_, _], _ => BindsTo.of_defaults (T := T_InvalidList) rfl (X _ _ ld_InvalidList) rfl rfl rfl), fun _ => ⟨_, rfl⟩⟩ })
    x_InvalidList := (⟨ga_InvalidList, gg_InvalidList, eC_InvalidList, hC_InvalidList⟩)
    e_InvalidList_InvalidList := (exm_of eC_InvalidList iC_InvalidList tC_InvalidList s_InvalidList_InvalidList)
    C_InvalidWrite := (C_InvalidWrite)
    I_InvalidWrite := (I_InvalidWrite)
    mc_InvalidWrite := (PySem.W.mg_of X G ac_InvalidWrite)
    S_InvalidWrite := ({ T := ⟨⟨nm_InvalidWrite, q_InvalidWrite, NN_InvalidWrite, bs_InvalidWrite, _, sn_InvalidWrite, sub_InvalidWrite, ab_InvalidWrite, col_InvalidWrite, dd_InvalidWrite, m0_InvalidWrite, m1_InvalidWrite, m2_InvalidWrite, m3_InvalidWrite, m5_InvalidWrite, xL_InvalidWrite, by first | rfl | decide +kernel⟩, sa_InvalidWrite, eC_InvalidWrite, tC_InvalidWrite, kC_InvalidWrite⟩, iC := i_InvalidWrite, tI := t_InvalidWrite, nf := nb_InvalidWrite, al := al_InvalidWrite, sV := sV_InvalidWrite, sC := sC_InvalidWrite, op := zop, tp := by decide +kernel, ne := by decide, nd := by decide, fn := ⟨oc_InvalidWrite, od_InvalidWrite, sl_InvalidWrite, "__init__", "InvalidWrite.__init__", defArgs si_InvalidWrite, defScope si_InvalidWrite, .ref T_InvalidWrite, kV_InvalidWrite, dc_InvalidWrite, pm_InvalidWrite, an_InvalidWrite, cda_InvalidWrite, ct_InvalidWrite, cc_InvalidWrite, ⟨25, 8, 25, 13⟩, ⟨25, 8, 25, 15⟩, ⟨25, 8, 25, 24⟩, ⟨25, 25, 25, 30⟩, ⟨25, 8, 25, 31⟩, ⟨25, 8, 25, 31⟩, ⟨26, 8, 26, 12⟩, ⟨26, 8, 26, 18⟩, ⟨26, 21, 26, 26⟩, ⟨26, 8, 26, 26⟩, { arg := "self", annotation := none, pos := ⟨24, 17, 24, 21⟩ }, ccl_InvalidWrite, cdd_InvalidWrite, vs_InvalidWrite, ccs_InvalidWrite, file_InvalidWrite, tf_InvalidWrite, cl_InvalidWrite, cld_InvalidWrite, csl_InvalidWrite, l_InvalidWrite, cd_InvalidWrite, by rfl, by rfl, by rfl, by rfl, by rfl, by decide +kernel, by rfl, by rfl, by rfl, by rfl, cr_InvalidWrite, v2_InvalidWrite, fl_InvalidWrite, clc_InvalidWrite, (fun s us X hl => match us, hl with | [_, _], _ => BindsTo.of_defaults (T := T_InvalidWrite) rfl (X _ _ ld_InvalidWrite) rfl rfl rfl), fun _ => ⟨_, rfl⟩⟩ })
    x_InvalidWrite := (⟨ga_InvalidWrite, gg_InvalidWrite, eC_InvalidWrite, hC_InvalidWrite⟩)
    e_InvalidWrite_InvalidWrite := (exm_of eC_InvalidWrite iC_InvalidWrite tC_InvalidWrite s_InvalidWrite_InvalidWrite)
    C_InvalidHistory := (C_InvalidHistory)
    I_InvalidHistory := (I_InvalidHistory)
    mc_InvalidHistory := (PySem.W.mg_of X G ac_InvalidHistory)
    S_InvalidHistory := ({ T := ⟨⟨nm_InvalidHistory, q_InvalidHistory, NN_InvalidHistory, bs_InvalidHistory, _, sn_InvalidHistory, sub_InvalidHistory, ab_InvalidHistory, col_InvalidHistory, dd_InvalidHistory, m0_InvalidHistory, m1_InvalidHistory, m2_InvalidHistory, m3_InvalidHistory, m5_InvalidHistory, xL_InvalidHistory, by first | rfl | decide +kernel⟩, sa_InvalidHistory, eC_InvalidHistory, tC_InvalidHistory, kC_InvalidHistory⟩, iC := i_InvalidHistory, tI := t_InvalidHistory, nf := nb_InvalidHistory, al := al_InvalidHistory, sV := sV_InvalidHistory, sC := sC_InvalidHistory, op := zop, tp := by decide +kernel, ne := by decide, nd := by decide, fn := ⟨oc_InvalidHistory, od_InvalidHistory, sl_InvalidHistory, "__init__", "InvalidHistory.__init__", defArgs si_InvalidHistory, defScope si_InvalidHistory, .ref T_InvalidHistory, kV_InvalidHistory, dc_InvalidHistory, pm_InvalidHistory, an_InvalidHistory, cda_InvalidHistory, ct_InvalidHistory, cc_InvalidHistory, ⟨30, 8, 30, 13⟩, ⟨30, 8, 30, 15⟩, ⟨30, 8, 30, 24⟩, ⟨30, 25, 30, 30⟩, ⟨30, 8, 30, 31⟩, ⟨30, 8, 30, 31⟩, ⟨31, 8, 31, 12⟩, ⟨31, 8, 31, 18⟩, ⟨31, 21, 31, 26⟩, ⟨31, 8, 31, 26⟩, { arg := "self", annotation := none, pos := ⟨29, 17, 29, 21⟩ }, ccl_InvalidHistory, cdd_InvalidHistory, vs_InvalidHistory, ccs_InvalidHistory, file_InvalidHistory, tf_InvalidHistory, cl_InvalidHistory, cld_InvalidHistory, csl_InvalidHistory, l_InvalidHistory, cd_InvalidHistory, by rfl, by rfl, by rfl, by rfl, by rfl, by decide +kernel, by rfl, by rfl, by rfl, by rfl, cr_InvalidHistory, v2_InvalidHistory, fl_InvalidHistory, clc_InvalidHistory, (fun s us X hl => match us, hl with | [_, _], _ => BindsTo.of_defaults (T := T_InvalidHistory) rfl (X _ _ ld_InvalidHistory) rfl rfl rfl), fun _ => ⟨_, rfl⟩⟩ })
    x_InvalidHistory := (⟨ga_InvalidHistory, gg_InvalidHistory, eC_InvalidHistory, hC_InvalidHistory⟩)
    e_InvalidHistory_InvalidHistory := (exm_of eC_InvalidHistory iC_InvalidHistory tC_InvalidHistory s_InvalidHistory_InvalidHistory)
    e_InvalidFile_InvalidNumber := (exm_of eC_InvalidNumber iC_InvalidNumber tC_InvalidNumber s_InvalidFile_InvalidNumber)
    e_InvalidFile_InvalidList := (exm_of eC_InvalidList iC_InvalidList tC_InvalidList s_InvalidFile_InvalidList)
    e_InvalidFile_InvalidWrite := (exm_of eC_InvalidWrite iC_InvalidWrite tC_InvalidWrite s_InvalidFile_InvalidWrite)
    e_InvalidFile_InvalidHistory := (exm_of eC_InvalidHistory iC_InvalidHistory tC_InvalidHistory s_InvalidFile_InvalidHistory)
    e_InvalidNumber_InvalidFile := (exm_of eC_InvalidFile iC_InvalidFile tC_InvalidFile s_InvalidNumber_InvalidFile)
    e_InvalidNumber_InvalidList := (exm_of eC_InvalidList iC_InvalidList tC_InvalidList s_InvalidNumber_InvalidList)
    e_InvalidNumber_InvalidWrite := (exm_of eC_InvalidWrite iC_InvalidWrite tC_InvalidWrite s_InvalidNumber_InvalidWrite)
    e_InvalidNumber_InvalidHistory := (exm_of eC_InvalidHistory iC_InvalidHistory tC_InvalidHistory s_InvalidNumber_InvalidHistory)
    e_InvalidList_InvalidFile := (exm_of eC_InvalidFile iC_InvalidFile tC_InvalidFile s_InvalidList_InvalidFile)
    e_InvalidList_InvalidNumber := (exm_of eC_InvalidNumber iC_InvalidNumber tC_InvalidNumber s_InvalidList_InvalidNumber)
    e_InvalidList_InvalidWrite := (exm_of eC_InvalidWrite iC_InvalidWrite tC_InvalidWrite s_InvalidList_InvalidWrite)
    e_InvalidList_InvalidHistory := (exm_of eC_InvalidHistory iC_InvalidHistory tC_InvalidHistory s_InvalidList_InvalidHistory)
    e_InvalidWrite_InvalidFile := (exm_of eC_InvalidFile iC_InvalidFile tC_InvalidFile s_InvalidWrite_InvalidFile)
    e_InvalidWrite_InvalidNumber := (exm_of eC_InvalidNumber iC_InvalidNumber tC_InvalidNumber s_InvalidWrite_InvalidNumber)
    e_InvalidWrite_InvalidList := (exm_of eC_InvalidList iC_InvalidList tC_InvalidList s_InvalidWrite_InvalidList)
    e_InvalidWrite_InvalidHistory := (exm_of eC_InvalidHistory iC_InvalidHistory tC_InvalidHistory s_InvalidWrite_InvalidHistory)
    e_InvalidHistory_InvalidFile := (exm_of eC_InvalidFile iC_InvalidFile tC_InvalidFile s_InvalidHistory_InvalidFile)
    e_InvalidHistory_InvalidNumber := (exm_of eC_InvalidNumber iC_InvalidNumber tC_InvalidNumber s_InvalidHistory_InvalidNumber)
    e_InvalidHistory_InvalidList := (exm_of eC_InvalidList iC_InvalidList tC_InvalidList s_InvalidHistory_InvalidList)
    e_InvalidHistory_InvalidWrite := (exm_of eC_InvalidWrite iC_InvalidWrite tC_InvalidWrite s_InvalidHistory_InvalidWrite) }
  exact ⟨R.d_law, fun s v => .of_eq rfl, fun base _ _ => ok_law R⟩
theorem walk {q : Program} {loose : List Str} {XP : (Str → Option Value) → Heap → Prop} {YP : World → Heap → Prop} {d : DefRec} {K : Params → Frag} (hdf : d.params.defaults = [])
    (hY : ∀ (w : World) (h : Heap), YP w h → (K w.params).In h)
    (F : ∀ (w : World) (mg : Str → Option Value) (fa : Addr) (h : Heap), (K w.params).In h → h.Ns mainGlobals mg → mg d.name = some (.ref fa) →
      ∃ fd : FuncData, (∀ (s : Shared) (u : Value), BindsTo s fd ⟨[u], []⟩ [("script", u)]) ∧ ∀ base : Heap, (K w.params).In base → base.Ns mainGlobals mg → FnOk PySem.Challenge.rw_keptholes_k63_whole_writes_seen_in_part.prog w (K w.params) mg base CX0 8 fa fd ["script"] (toSp (K w.params) spLaw)) :
    PySem.W.WalkO q loose XP YP PySem.Challenge.rw_keptholes_k63_whole_writes_seen_in_part.row.toRowW d [] (fun f vs => PySem.call f vs) :=
  L2.walk_of (l := PySem.Challenge.rw_keptholes_k63_whole_writes_seen_in_part) (n := 63) (k := 8) (x := "script") (CX := fun _ => CX0) (sp := fun w => toSp (K w.params) spLaw) rfl (by decide) hdf ⟨rfl, by decide, by decide⟩ hY F
    (fun w H a ns hl _ hS => law_sp hl hS) fun _ _ _ _ _ z => z
end Kh
open PySem PySem.W PyProof.Rows in
set_option maxRecDepth 100000 in
set_option maxHeartbeats 0 in
theorem PySem.Challenge.cw_keptholes_k63_whole_writes_seen_in_part_holds : PySem.Challenge.rw_keptholes_k63_whole_writes_seen_in_part.Holds := by
  w_on; o_law; k_head; (case hw => w_witness2)
  k_fill
  refine Kh.walk rfl (fun w h Y => PySem.W.kIn_of Y) ?F
  case F =>
    intro w mg fa h KX G hmg
    refine' Kh.all_mk KX G hmg ?z_ValueError ?z_bool ?z_enumerate ?z_int ?z_isinstance ?z_iter ?z_len ?z_list ?z_max ?z_min ?z_property ?z_range ?z_sorted ?z_str ?z_sum ?z_super ?z_tuple ?g_SIGNS ?ac_File ?ac_History ?a_is_whole ?l_is_whole ?c_is_whole ?k_is_whole ?a_check_least ?l_check_least ?c_check_least ?k_check_least ?a_check_within ?l_check_within ?c_check_within ?k_check_within ?a_are_cells ?l_are_cells ?c_are_cells ?k_are_cells ?a_is_content ?l_is_content ?c_is_content ?k_is_content ?a_check_file ?l_check_file ?c_check_file ?k_check_file ?a_blocks_of ?l_blocks_of ?c_blocks_of ?k_blocks_of ?a_is_write ?l_is_write ?c_is_write ?k_is_write ?a_check_write ?l_check_write ?c_check_write ?k_check_write ?a_written ?l_written ?c_written ?k_written ?a_check_history ?l_check_history ?c_check_history ?k_check_history ?a_check_asked ?l_check_asked ?c_check_asked ?k_check_asked ?a_columns_of ?l_columns_of ?c_columns_of ?k_columns_of ?a_columns_along ?l_columns_along ?c_columns_along ?k_columns_along ?a_readings ?l_readings ?c_readings ?k_readings ?a_counts_of ?l_counts_of ?c_counts_of ?k_counts_of ?a_content_of ?l_content_of ?c_content_of ?k_content_of ?a_torn_within ?l_torn_within ?c_torn_within ?k_torn_within ?a_torn_copy ?l_torn_copy ?c_torn_copy ?k_torn_copy ?ld_torn_copy ?kd_torn_copy_down ?a_parted ?l_parted ?c_parted ?k_parted ?a_holds ?l_holds ?c_holds ?k_holds ?kd_holds_down ?a_windows ?l_windows ?c_windows ?k_windows ?kd_windows_down ?a_law_spring ?l_law_spring ?c_law_spring ?k_law_spring ?a_law_sip ?l_law_sip ?c_law_sip ?k_law_sip ?a_law_cells ?l_law_cells ?c_law_cells ?k_law_cells ?a_law_text ?l_law_text ?c_law_text ?k_law_text ?a_law_writes ?l_law_writes ?c_law_writes ?k_law_writes ?a_law_states ?l_law_states ?c_law_states ?k_law_states ?a_law_seen ?l_law_seen ?c_law_seen ?k_law_seen ?a_law_right ?l_law_right ?c_law_right ?k_law_right ?a_law ?l_law ?c_law ?k_law ?a_File_init ?i_File_init ?l_File_init ?c_File_init ?k_File_init ?ld_File_init ?pa_File_cells ?pb_File_cells ?pc_File_cells ?pd_File_cells ?l_File_cells ?c_File_cells ?k_File_cells ?pa_File_content ?pb_File_content ?pc_File_content ?pd_File_content ?l_File_content ?c_File_content ?k_File_content ?a_File_len ?i_File_len ?l_File_len ?c_File_len ?k_File_len ?a_File_iter ?i_File_iter ?l_File_iter ?c_File_iter ?k_File_iter ?a_File_getitem ?i_File_getitem ?l_File_getitem ?c_File_getitem ?k_File_getitem ?a_File_eq ?i_File_eq ?l_File_eq ?c_File_eq ?k_File_eq ?a_History_init ?i_History_init ?l_History_init ?c_History_init ?k_History_init ?ld_History_init ?pa_History_file ?pb_History_file ?pc_History_file ?pd_History_file ?l_History_file ?c_History_file ?k_History_file ?a_History_len ?i_History_len ?l_History_len ?c_History_len ?k_History_len ?a_History_iter ?i_History_iter ?l_History_iter ?c_History_iter ?k_History_iter ?a_History_getitem ?i_History_getitem ?l_History_getitem ?c_History_getitem ?k_History_getitem ?a_History_iadd ?i_History_iadd ?l_History_iadd ?c_History_iadd ?k_History_iadd ?a_History_eq ?i_History_eq ?l_History_eq ?c_History_eq ?k_History_eq ?a_History_states ?i_History_states ?l_History_states ?c_History_states ?k_History_states ?a_History_at ?i_History_at ?l_History_at ?c_History_at ?k_History_at ?a_History_copy ?i_History_copy ?l_History_copy ?c_History_copy ?k_History_copy ?ohn ?otk ?pg_File ?hd_File ?po_File ?sa_File ?ha_File ?mr_File ?ms_File ?mk_File ?kc_File ?na_File_row ?pg_History ?hd_History ?po_History ?sa_History ?ha_History ?mr_History ?ms_History ?mk_History ?kc_History ?na_History_start ?na_History_rows ?ic_File ?tc_File ?ic_History ?tc_History ?ne_File ?fi_File_getitem ?ne_History ?fi_History_getitem ?s_File_History ?s_File_bool ?s_File_int ?s_File_list ?s_File_str ?s_File_tuple ?nf_History_File ?s_History_File ?s_History_bool ?s_History_int ?s_History_list ?s_History_str ?s_History_tuple ?nf_File_History ?zop ?ac_InvalidFile ?ac_HoleError ?xL_InvalidFile ?sa_InvalidFile ?ga_InvalidFile ?gg_InvalidFile ?nb_InvalidFile ?i_InvalidFile ?t_InvalidFile ?l_InvalidFile ?ld_InvalidFile ?cd_InvalidFile ?cr_InvalidFile ?v2_InvalidFile ?fl_InvalidFile ?clc_InvalidFile ?al_InvalidFile ?sV_InvalidFile ?eC_InvalidFile ?sC_InvalidFile ?kC_InvalidFile ?tC_InvalidFile ?hC_InvalidFile ?iC_InvalidFile ?s_InvalidFile_InvalidFile ?ac_InvalidNumber ?xL_InvalidNumber ?sa_InvalidNumber ?ga_InvalidNumber ?gg_InvalidNumber ?nb_InvalidNumber ?i_InvalidNumber ?t_InvalidNumber ?l_InvalidNumber ?ld_InvalidNumber ?cd_InvalidNumber ?cr_InvalidNumber ?v2_InvalidNumber ?fl_InvalidNumber ?clc_InvalidNumber ?al_InvalidNumber ?sV_InvalidNumber ?eC_InvalidNumber ?sC_InvalidNumber ?kC_InvalidNumber ?tC_InvalidNumber ?hC_InvalidNumber ?iC_InvalidNumber ?s_InvalidNumber_InvalidNumber ?ac_InvalidList ?xL_InvalidList ?sa_InvalidList ?ga_InvalidList ?gg_InvalidList ?nb_InvalidList ?i_InvalidList ?t_InvalidList ?l_InvalidList ?ld_InvalidList ?cd_InvalidList ?cr_InvalidList ?v2_InvalidList ?fl_InvalidList ?clc_InvalidList ?al_InvalidList ?sV_InvalidList ?eC_InvalidList ?sC_InvalidList ?kC_InvalidList ?tC_InvalidList ?hC_InvalidList ?iC_InvalidList ?s_InvalidList_InvalidList ?ac_InvalidWrite ?xL_InvalidWrite ?sa_InvalidWrite ?ga_InvalidWrite ?gg_InvalidWrite ?nb_InvalidWrite ?i_InvalidWrite ?t_InvalidWrite ?l_InvalidWrite ?ld_InvalidWrite ?cd_InvalidWrite ?cr_InvalidWrite ?v2_InvalidWrite ?fl_InvalidWrite ?clc_InvalidWrite ?al_InvalidWrite ?sV_InvalidWrite ?eC_InvalidWrite ?sC_InvalidWrite ?kC_InvalidWrite ?tC_InvalidWrite ?hC_InvalidWrite ?iC_InvalidWrite ?s_InvalidWrite_InvalidWrite ?ac_InvalidHistory ?xL_InvalidHistory ?sa_InvalidHistory ?ga_InvalidHistory ?gg_InvalidHistory ?nb_InvalidHistory ?i_InvalidHistory ?t_InvalidHistory ?l_InvalidHistory ?ld_InvalidHistory ?cd_InvalidHistory ?cr_InvalidHistory ?v2_InvalidHistory ?fl_InvalidHistory ?clc_InvalidHistory ?al_InvalidHistory ?sV_InvalidHistory ?eC_InvalidHistory ?sC_InvalidHistory ?kC_InvalidHistory ?tC_InvalidHistory ?hC_InvalidHistory ?iC_InvalidHistory ?s_InvalidHistory_InvalidHistory ?s_InvalidFile_InvalidNumber ?s_InvalidFile_InvalidList ?s_InvalidFile_InvalidWrite ?s_InvalidFile_InvalidHistory ?s_InvalidNumber_InvalidFile ?s_InvalidNumber_InvalidList ?s_InvalidNumber_InvalidWrite ?s_InvalidNumber_InvalidHistory ?s_InvalidList_InvalidFile ?s_InvalidList_InvalidNumber ?s_InvalidList_InvalidWrite ?s_InvalidList_InvalidHistory ?s_InvalidWrite_InvalidFile ?s_InvalidWrite_InvalidNumber ?s_InvalidWrite_InvalidList ?s_InvalidWrite_InvalidHistory ?s_InvalidHistory_InvalidFile ?s_InvalidHistory_InvalidNumber ?s_InvalidHistory_InvalidList ?s_InvalidHistory_InvalidWrite

    (case z_ValueError => k_is)
    (case z_bool => k_is)
    (case z_enumerate => k_is)
    (case z_int => k_is)
    (case z_isinstance => k_is)
    (case z_iter => k_is)
    (case z_len => k_is)
    (case z_list => k_is)
    (case z_max => k_is)
    (case z_min => k_is)
    (case z_property => k_is)
    (case z_range => k_is)
    (case z_sorted => k_is)
    (case z_str => k_is)
    (case z_sum => k_is)
    (case z_super => k_is)
    (case z_tuple => k_is)
    (case g_SIGNS => k_is)
    (case ac_File => k_is)
    (case ac_History => k_is)
    (case a_is_whole => k_is)
    (case l_is_whole => k_is)
    (case c_is_whole => k_is)
    (case k_is_whole => k_is)
    (case a_check_least => k_is)
    (case l_check_least => k_is)
    (case c_check_least => k_is)
    (case k_check_least => k_is)
    (case a_check_within => k_is)
    (case l_check_within => k_is)
    (case c_check_within => k_is)
    (case k_check_within => k_is)
    (case a_are_cells => k_is)
    (case l_are_cells => k_is)
    (case c_are_cells => k_is)
    (case k_are_cells => k_is)
    (case a_is_content => k_is)
    (case l_is_content => k_is)
    (case c_is_content => k_is)
    (case k_is_content => k_is)
    (case a_check_file => k_is)
    (case l_check_file => k_is)
    (case c_check_file => k_is)
    (case k_check_file => k_is)
    (case a_blocks_of => k_is)
    (case l_blocks_of => k_is)
    (case c_blocks_of => k_is)
    (case k_blocks_of => k_is)
    (case a_is_write => k_is)
    (case l_is_write => k_is)
    (case c_is_write => k_is)
    (case k_is_write => k_is)
    (case a_check_write => k_is)
    (case l_check_write => k_is)
    (case c_check_write => k_is)
    (case k_check_write => k_is)
    (case a_written => k_is)
    (case l_written => k_is)
    (case c_written => k_is)
    (case k_written => k_is)
    (case a_check_history => k_is)
    (case l_check_history => k_is)
    (case c_check_history => k_is)
    (case k_check_history => k_is)
    (case a_check_asked => k_is)
    (case l_check_asked => k_is)
    (case c_check_asked => k_is)
    (case k_check_asked => k_is)
    (case a_columns_of => k_is)
    (case l_columns_of => k_is)
    (case c_columns_of => k_is)
    (case k_columns_of => k_is)
    (case a_columns_along => k_is)
    (case l_columns_along => k_is)
    (case c_columns_along => k_is)
    (case k_columns_along => k_is)
    (case a_readings => k_is)
    (case l_readings => k_is)
    (case c_readings => k_is)
    (case k_readings => k_is)
    (case a_counts_of => k_is)
    (case l_counts_of => k_is)
    (case c_counts_of => k_is)
    (case k_counts_of => k_is)
    (case a_content_of => k_is)
    (case l_content_of => k_is)
    (case c_content_of => k_is)
    (case k_content_of => k_is)
    (case a_torn_within => k_is)
    (case l_torn_within => k_is)
    (case c_torn_within => k_is)
    (case k_torn_within => k_is)
    (case a_torn_copy => k_is)
    (case l_torn_copy => k_is)
    (case c_torn_copy => k_is)
    (case k_torn_copy => k_is)
    (case ld_torn_copy => k_is)
    (case kd_torn_copy_down => k_is)
    (case a_parted => k_is)
    (case l_parted => k_is)
    (case c_parted => k_is)
    (case k_parted => k_is)
    (case a_holds => k_is)
    (case l_holds => k_is)
    (case c_holds => k_is)
    (case k_holds => k_is)
    (case kd_holds_down => k_is)
    (case a_windows => k_is)
    (case l_windows => k_is)
    (case c_windows => k_is)
    (case k_windows => k_is)
    (case kd_windows_down => k_is)
    (case a_law_spring => k_is)
    (case l_law_spring => k_is)
    (case c_law_spring => k_is)
    (case k_law_spring => k_is)
    (case a_law_sip => k_is)
    (case l_law_sip => k_is)
    (case c_law_sip => k_is)
    (case k_law_sip => k_is)
    (case a_law_cells => k_is)
    (case l_law_cells => k_is)
    (case c_law_cells => k_is)
    (case k_law_cells => k_is)
    (case a_law_text => k_is)
    (case l_law_text => k_is)
    (case c_law_text => k_is)
    (case k_law_text => k_is)
    (case a_law_writes => k_is)
    (case l_law_writes => k_is)
    (case c_law_writes => k_is)
    (case k_law_writes => k_is)
    (case a_law_states => k_is)
    (case l_law_states => k_is)
    (case c_law_states => k_is)
    (case k_law_states => k_is)
    (case a_law_seen => k_is)
    (case l_law_seen => k_is)
    (case c_law_seen => k_is)
    (case k_law_seen => k_is)
    (case a_law_right => k_is)
    (case l_law_right => k_is)
    (case c_law_right => k_is)
    (case k_law_right => k_is)
    (case a_law => k_is)
    (case l_law => k_is)
    (case c_law => k_is)
    (case k_law => k_is)
    (case a_File_init => k_is)
    (case i_File_init => k_is)
    (case l_File_init => k_is)
    (case c_File_init => k_is)
    (case k_File_init => k_is)
    (case ld_File_init => k_is)
    (case pa_File_cells => k_is)
    (case pb_File_cells => k_is)
    (case pc_File_cells => k_is)
    (case pd_File_cells => k_is)
    (case l_File_cells => k_is)
    (case c_File_cells => k_is)
    (case k_File_cells => k_is)
    (case pa_File_content => k_is)
    (case pb_File_content => k_is)
    (case pc_File_content => k_is)
    (case pd_File_content => k_is)
    (case l_File_content => k_is)
    (case c_File_content => k_is)
    (case k_File_content => k_is)
    (case a_File_len => k_is)
    (case i_File_len => k_is)
    (case l_File_len => k_is)
    (case c_File_len => k_is)
    (case k_File_len => k_is)
    (case a_File_iter => k_is)
    (case i_File_iter => k_is)
    (case l_File_iter => k_is)
    (case c_File_iter => k_is)
    (case k_File_iter => k_is)
    (case a_File_getitem => k_is)
    (case i_File_getitem => k_is)
    (case l_File_getitem => k_is)
    (case c_File_getitem => k_is)
    (case k_File_getitem => k_is)
    (case a_File_eq => k_is)
    (case i_File_eq => k_is)
    (case l_File_eq => k_is)
    (case c_File_eq => k_is)
    (case k_File_eq => k_is)
    (case a_History_init => k_is)
    (case i_History_init => k_is)
    (case l_History_init => k_is)
    (case c_History_init => k_is)
    (case k_History_init => k_is)
    (case ld_History_init => k_is)
    (case pa_History_file => k_is)
    (case pb_History_file => k_is)
    (case pc_History_file => k_is)
    (case pd_History_file => k_is)
    (case l_History_file => k_is)
    (case c_History_file => k_is)
    (case k_History_file => k_is)
    (case a_History_len => k_is)
    (case i_History_len => k_is)
    (case l_History_len => k_is)
    (case c_History_len => k_is)
    (case k_History_len => k_is)
    (case a_History_iter => k_is)
    (case i_History_iter => k_is)
    (case l_History_iter => k_is)
    (case c_History_iter => k_is)
    (case k_History_iter => k_is)
    (case a_History_getitem => k_is)
    (case i_History_getitem => k_is)
    (case l_History_getitem => k_is)
    (case c_History_getitem => k_is)
    (case k_History_getitem => k_is)
    (case a_History_iadd => k_is)
    (case i_History_iadd => k_is)
    (case l_History_iadd => k_is)
    (case c_History_iadd => k_is)
    (case k_History_iadd => k_is)
    (case a_History_eq => k_is)
    (case i_History_eq => k_is)
    (case l_History_eq => k_is)
    (case c_History_eq => k_is)
    (case k_History_eq => k_is)
    (case a_History_states => k_is)
    (case i_History_states => k_is)
    (case l_History_states => k_is)
    (case c_History_states => k_is)
    (case k_History_states => k_is)
    (case a_History_at => k_is)
    (case i_History_at => k_is)
    (case l_History_at => k_is)
    (case c_History_at => k_is)
    (case k_History_at => k_is)
    (case a_History_copy => k_is)
    (case i_History_copy => k_is)
    (case l_History_copy => k_is)
    (case c_History_copy => k_is)
    (case k_History_copy => k_is)
    (case ohn => first | k_is | rfl | kernel_rfl)
    (case otk => first | k_is | rfl | kernel_rfl)
    (case pg_File => k_is)
    (case hd_File => k_is)
    (case po_File => k_is)
    (case sa_File => k_is)
    (case ha_File => k_is)
    (case mr_File => first | k_is | kernel_rfl | rfl)
    (case ms_File => first | k_is | kernel_rfl | rfl)
    (case mk_File => k_is)
    (case kc_File => k_is)
    (case na_File_row => k_is)
    (case pg_History => k_is)
    (case hd_History => k_is)
    (case po_History => k_is)
    (case sa_History => k_is)
    (case ha_History => k_is)
    (case mr_History => first | k_is | kernel_rfl | rfl)
    (case ms_History => first | k_is | kernel_rfl | rfl)
    (case mk_History => k_is)
    (case kc_History => k_is)
    (case na_History_start => k_is)
    (case na_History_rows => k_is)
    (case ic_File => k_is)
    (case tc_File => k_is)
    (case ic_History => k_is)
    (case tc_History => k_is)
    (case ne_File => k_is)
    (case fi_File_getitem => k_is)
    (case ne_History => k_is)
    (case fi_History_getitem => k_is)
    (case s_File_History => k_is)
    (case s_File_bool => k_is)
    (case s_File_int => k_is)
    (case s_File_list => k_is)
    (case s_File_str => k_is)
    (case s_File_tuple => k_is)
    (case nf_History_File => first | k_is | kernel_rfl | rfl)
    (case s_History_File => k_is)
    (case s_History_bool => k_is)
    (case s_History_int => k_is)
    (case s_History_list => k_is)
    (case s_History_str => k_is)
    (case s_History_tuple => k_is)
    (case nf_File_History => first | k_is | kernel_rfl | rfl)
    (case zop => k_is)
    (case ac_InvalidFile => k_is)
    (case ac_HoleError => k_is)
    (case xL_InvalidFile => k_is)
    (case sa_InvalidFile => k_is)
    (case ga_InvalidFile => k_is)
    (case gg_InvalidFile => k_is)
    (case nb_InvalidFile => k_is)
    (case i_InvalidFile => k_is)
    (case t_InvalidFile => k_is)
    (case l_InvalidFile => k_is)
    (case ld_InvalidFile => k_is)
    (case cd_InvalidFile => k_is)
    (case cr_InvalidFile => k_is)
    (case v2_InvalidFile => rfl)
    (case fl_InvalidFile => first | rfl | decide +kernel)
    (case clc_InvalidFile => k_is)
    (case al_InvalidFile => first | k_is | ks_is | kernel_rfl)
    (case sV_InvalidFile => k_is)
    (case eC_InvalidFile => k_is)
    (case sC_InvalidFile => first | k_is | kernel_rfl | rfl)
    (case kC_InvalidFile => k_is)
    (case tC_InvalidFile => k_is)
    (case hC_InvalidFile => k_is)
    (case iC_InvalidFile => k_is)
    (case s_InvalidFile_InvalidFile => first | rfl | k_is)
    (case ac_InvalidNumber => k_is)
    (case xL_InvalidNumber => k_is)
    (case sa_InvalidNumber => k_is)
    (case ga_InvalidNumber => k_is)
    (case gg_InvalidNumber => k_is)
    (case nb_InvalidNumber => k_is)
    (case i_InvalidNumber => k_is)
    (case t_InvalidNumber => k_is)
    (case l_InvalidNumber => k_is)
    (case ld_InvalidNumber => k_is)
    (case cd_InvalidNumber => k_is)
    (case cr_InvalidNumber => k_is)
    (case v2_InvalidNumber => rfl)
    (case fl_InvalidNumber => first | rfl | decide +kernel)
    (case clc_InvalidNumber => k_is)
    (case al_InvalidNumber => first | k_is | ks_is | kernel_rfl)
    (case sV_InvalidNumber => k_is)
    (case eC_InvalidNumber => k_is)
    (case sC_InvalidNumber => first | k_is | kernel_rfl | rfl)
    (case kC_InvalidNumber => k_is)
    (case tC_InvalidNumber => k_is)
    (case hC_InvalidNumber => k_is)
    (case iC_InvalidNumber => k_is)
    (case s_InvalidNumber_InvalidNumber => first | rfl | k_is)
    (case ac_InvalidList => k_is)
    (case xL_InvalidList => k_is)
    (case sa_InvalidList => k_is)
    (case ga_InvalidList => k_is)
    (case gg_InvalidList => k_is)
    (case nb_InvalidList => k_is)
    (case i_InvalidList => k_is)
    (case t_InvalidList => k_is)
    (case l_InvalidList => k_is)
    (case ld_InvalidList => k_is)
    (case cd_InvalidList => k_is)
    (case cr_InvalidList => k_is)
    (case v2_InvalidList => rfl)
    (case fl_InvalidList => first | rfl | decide +kernel)
    (case clc_InvalidList => k_is)
    (case al_InvalidList => first | k_is | ks_is | kernel_rfl)
    (case sV_InvalidList => k_is)
    (case eC_InvalidList => k_is)
    (case sC_InvalidList => first | k_is | kernel_rfl | rfl)
    (case kC_InvalidList => k_is)
    (case tC_InvalidList => k_is)
    (case hC_InvalidList => k_is)
    (case iC_InvalidList => k_is)
    (case s_InvalidList_InvalidList => first | rfl | k_is)
    (case ac_InvalidWrite => k_is)
    (case xL_InvalidWrite => k_is)
    (case sa_InvalidWrite => k_is)
    (case ga_InvalidWrite => k_is)
    (case gg_InvalidWrite => k_is)
    (case nb_InvalidWrite => k_is)
    (case i_InvalidWrite => k_is)
    (case t_InvalidWrite => k_is)
    (case l_InvalidWrite => k_is)
    (case ld_InvalidWrite => k_is)
    (case cd_InvalidWrite => k_is)
    (case cr_InvalidWrite => k_is)
    (case v2_InvalidWrite => rfl)
    (case fl_InvalidWrite => first | rfl | decide +kernel)
    (case clc_InvalidWrite => k_is)
    (case al_InvalidWrite => first | k_is | ks_is | kernel_rfl)
    (case sV_InvalidWrite => k_is)
    (case eC_InvalidWrite => k_is)
    (case sC_InvalidWrite => first | k_is | kernel_rfl | rfl)
    (case kC_InvalidWrite => k_is)
    (case tC_InvalidWrite => k_is)
    (case hC_InvalidWrite => k_is)
    (case iC_InvalidWrite => k_is)
    (case s_InvalidWrite_InvalidWrite => first | rfl | k_is)
    (case ac_InvalidHistory => k_is)
    (case xL_InvalidHistory => k_is)
    (case sa_InvalidHistory => k_is)
    (case ga_InvalidHistory => k_is)
    (case gg_InvalidHistory => k_is)
    (case nb_InvalidHistory => k_is)
    (case i_InvalidHistory => k_is)
    (case t_InvalidHistory => k_is)
    (case l_InvalidHistory => k_is)
    (case ld_InvalidHistory => k_is)
    (case cd_InvalidHistory => k_is)
    (case cr_InvalidHistory => k_is)
    (case v2_InvalidHistory => rfl)
    (case fl_InvalidHistory => first | rfl | decide +kernel)
    (case clc_InvalidHistory => k_is)
    (case al_InvalidHistory => first | k_is | ks_is | kernel_rfl)
    (case sV_InvalidHistory => k_is)
    (case eC_InvalidHistory => k_is)
    (case sC_InvalidHistory => first | k_is | kernel_rfl | rfl)
    (case kC_InvalidHistory => k_is)
    (case tC_InvalidHistory => k_is)
    (case hC_InvalidHistory => k_is)
    (case iC_InvalidHistory => k_is)
    (case s_InvalidHistory_InvalidHistory => first | rfl | k_is)
    (case s_InvalidFile_InvalidNumber => k_is)
    (case s_InvalidFile_InvalidList => k_is)
    (case s_InvalidFile_InvalidWrite => k_is)
    (case s_InvalidFile_InvalidHistory => k_is)
    (case s_InvalidNumber_InvalidFile => k_is)
    (case s_InvalidNumber_InvalidList => k_is)
    (case s_InvalidNumber_InvalidWrite => k_is)
    (case s_InvalidNumber_InvalidHistory => k_is)
    (case s_InvalidList_InvalidFile => k_is)
    (case s_InvalidList_InvalidNumber => k_is)
    (case s_InvalidList_InvalidWrite => k_is)
    (case s_InvalidList_InvalidHistory => k_is)
    (case s_InvalidWrite_InvalidFile => k_is)
    (case s_InvalidWrite_InvalidNumber => k_is)
    (case s_InvalidWrite_InvalidList => k_is)
    (case s_InvalidWrite_InvalidHistory => k_is)
    (case s_InvalidHistory_InvalidFile => k_is)
    (case s_InvalidHistory_InvalidNumber => k_is)
    (case s_InvalidHistory_InvalidList => k_is)
    (case s_InvalidHistory_InvalidWrite => k_is)

