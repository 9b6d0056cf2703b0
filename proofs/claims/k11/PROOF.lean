import PyProof.Rows.All
import Wide.All
import OpenK.AllK
import Wide.FinOn
import HandS.Base
import HandS.Call
import HandS.List
import HandS.Comp
import HandS.Ends
import HandS.Dict
import HandS.Iter
import HandS.Text
import HandS.Words
import HandS.WordsList
import HandS.WordsDict
import HandS.Walk
import HandS.IsInst
import HandS.Deep
import HandS.More
import HandS.Defaults
import PySem.Challenge.RW_snapsure_k11_whole_named_there_and_back
import KE.GoesMore
import HandS.Strs
import HandS.Exc
import HandS.Replace
import HandS.ReplaceLit
import HandS.Conv
import HandS.Head0
import HandS.Head1
import HandS.Head2
import HandS.HeadEnd
import HandS.HeadHook3
set_option Elab.async false
set_option linter.all false
set_option maxRecDepth 100000
set_option maxHeartbeats 0
/-! SN, the base: what is known (G), what stands (H), slots that hold data, what an expression is worth. -/
namespace SN
open PySem L2

/-! ### G, what is known for good, within H, what stands; M: what may change -/
structure Fr (M : Addr → Prop) (G0 H0 G H : Hp) : Prop where
  gg : Same G0 G
  gh : Same G H
  hh : ∀ a o, ¬ M a → H0 a = some o → H a = some o
  fr : ∀ a o u, G a = some o → H0 a = some u → ∃ z, G0 a = some z
  live : ∀ a o, H0 a = some o → ∃ u, H a = some u
abbrev M0 : Addr → Prop := fun _ => False
theorem Fr.refl {M : Addr → Prop} {G H : Hp} (h : Same G H) : Fr M G H G H := ⟨Same.refl G, h, fun _ _ _ e => e, fun a o u e _ => ⟨o, e⟩, fun a o e => ⟨o, e⟩⟩
theorem Fr.weak {M M' : Addr → Prop} {G0 H0 G H : Hp} (f : Fr M G0 H0 G H) (h : ∀ a, M a → M' a) : Fr M' G0 H0 G H := ⟨f.gg, f.gh, fun a o n e => f.hh a o (fun m => n (h a m)) e, f.fr, f.live⟩
theorem Fr.of0 {M : Addr → Prop} {G0 H0 G H : Hp} (f : Fr M0 G0 H0 G H) : Fr M G0 H0 G H := f.weak fun _ z => z.elim
theorem Fr.trans {M M' : Addr → Prop} {G0 H0 G H G2 H2 : Hp} (f : Fr M G0 H0 G H) (g : Fr M' G H G2 H2) (hm : ∀ a, M' a → M a ∨ H0 a = none) : Fr M G0 H0 G2 H2 where
  gg := f.gg.trans g.gg
  gh := g.gh
  hh := fun a o n e => g.hh a o (fun m => (hm a m).elim n fun z => by rw [e] at z; cases z) (f.hh a o n e)
  fr := fun a o u e e0 => by
    obtain ⟨x, ex⟩ := f.live a u e0
    obtain ⟨z, ez⟩ := g.fr a o x e ex
    exact f.fr a z u ez e0
  live := fun a o e => by
    obtain ⟨x, ex⟩ := f.live a o e
    exact g.live a x ex
theorem Fr.trans0 {M : Addr → Prop} {G0 H0 G H G2 H2 : Hp} (f : Fr M G0 H0 G H) (g : Fr M0 G H G2 H2) : Fr M G0 H0 G2 H2 := f.trans g fun _ z => z.elim
theorem Fr.transM {M : Addr → Prop} {G0 H0 G H G2 H2 : Hp} (f : Fr M G0 H0 G H) (g : Fr M G H G2 H2) : Fr M G0 H0 G2 H2 := f.trans g fun _ z => .inl z
theorem same_new {H : Hp} {p : Addr} {o : HO} (h : H p = none) : Same H (upd H p o) := fun b x e => by
  rw [upd_ne (ne_of_none e h)]
  exact e
theorem same_upd2 {G H : Hp} {p : Addr} {o : HO} (s : Same G H) : Same (upd G p o) (upd H p o) := fun b x e => by
  by_cases h : b = p
  · subst h
    rw [upd_same] at e ⊢
    exact e
  · rw [upd_ne h] at e ⊢
    exact s b x e
theorem none_of {G H : Hp} {a : Addr} (s : Same G H) (h : H a = none) : G a = none := s.free h
/-- a new object that is known from now on -/
theorem Fr.new {G H : Hp} {p : Addr} {o : HO} (s : Same G H) (h : H p = none) : Fr M0 G H (upd G p o) (upd H p o) where
  gg := same_new (none_of s h)
  gh := same_upd2 s
  hh := fun a x _ e => same_new h a x e
  fr := fun a x u e e0 => by
    rw [upd_ne (ne_of_none e0 h)] at e
    exact ⟨x, e⟩
  live := fun a x e => ⟨x, same_new h a x e⟩
/-- a new object that may change -/
theorem Fr.newU {G H : Hp} {p : Addr} {o : HO} (s : Same G H) (h : H p = none) : Fr M0 G H G (upd H p o) where
  gg := Same.refl G
  gh := s.trans (same_new h)
  hh := fun a x _ e => same_new h a x e
  fr := fun a x u e _ => ⟨x, e⟩
  live := fun a x e => ⟨x, same_new h a x e⟩
/-- an object outside what is known changes -/
theorem same_out {G H : Hp} {p : Addr} {o : HO} (s : Same G H) (h : G p = none) : Same G (upd H p o) := fun b x e => by
  rw [upd_ne (ne_of_none e h)]
  exact s b x e
theorem Fr.put {M : Addr → Prop} {G0 H0 G H : Hp} {p : Addr} {o u : HO} (f : Fr M G0 H0 G H) (hp : H p = some u) (hg : G p = none) (hm : M p ∨ H0 p = none) : Fr M G0 H0 G (upd H p o) where
  gg := f.gg
  gh := same_out f.gh hg
  hh := fun a x n e => by
    have : a ≠ p := fun z => by
      subst z
      rcases hm with m | m
      · exact n m
      · rw [e] at m; cases m
    rw [upd_ne this]
    exact f.hh a x n e
  fr := f.fr
  live := fun a x e => by
    by_cases h : a = p
    · subst h
      exact ⟨o, upd_same⟩
    · rw [upd_ne h]
      exact f.live a x e
/-- a young object is known from now on -/
theorem Fr.keep {M : Addr → Prop} {G0 H0 G H : Hp} {p : Addr} {o : HO} (f : Fr M G0 H0 G H) (hp : H p = some o) (hg : G p = none) (h0 : H0 p = none) : Fr M G0 H0 (upd G p o) H where
  gg := f.gg.trans (same_new hg)
  gh := fun b x e => by
    by_cases h : b = p
    · subst h
      rw [upd_same] at e
      rw [hp]
      exact e
    · rw [upd_ne h] at e
      exact f.gh b x e
  hh := f.hh
  fr := fun a x u e e0 => by
    rw [upd_ne (ne_of_none e0 h0)] at e
    exact f.fr a x u e e0
  live := f.live

/-! ### data: as the library's Dp, but a list stands in the heap itself -/
theorem Same.tup {K : PySem.W.Frag} {H H' : Hp} {a : Addr} {xs : List V} (e : Same H H') (h : SqT K H a xs) : SqT K H' a xs := by
  rcases h with (h | ⟨o, h⟩) | h
  · exact .inl (.inl (e _ _ h))
  · exact .inl (.inr ⟨o, e _ _ h⟩)
  · exact .inr h
mutual
inductive Dq (K : PySem.W.Frag) (H : Hp) : V → PyData → Prop
  | non : Dq K H .non .none
  | bl (b : Bool) : Dq K H (.bl b) (.bool b)
  | int (i : Int) : Dq K H (.int i) (.int i)
  | str (x : Str) : Dq K H (.str x) (.str x)
  | lst {a : Addr} {xs : List V} {ds : List PyData} (h : H a = some (.lst xs)) (t : DqAll K H xs ds) : Dq K H (.ref a) (.list ds)
  | tup {a : Addr} {xs : List V} {ds : List PyData} (h : H a = some (.tup xs)) (t : DqAll K H xs ds) : Dq K H (.ref a) (.tuple ds)
inductive DqAll (K : PySem.W.Frag) (H : Hp) : List V → List PyData → Prop
  | nil : DqAll K H [] []
  | cons {v : V} {vs : List V} {d : PyData} {ds : List PyData} (h : Dq K H v d) (t : DqAll K H vs ds) : DqAll K H (v :: vs) (d :: ds)
end
mutual
theorem Dq.dp {K : PySem.W.Frag} {G : Hp} : ∀ (d : PyData) (v : V), Dq K G v d → Dp K G v d
  | .none, _, h => by cases h; exact .non
  | .bool b, _, h => by cases h; exact .bl b
  | .int i, _, h => by cases h; exact .int i
  | .str x, _, h => by cases h; exact .str x
  | .list ds, _, h => by
    cases h with
    | lst hs ha => exact .lst (.of hs) (Dq.dps ds _ ha)
  | .tuple ds, _, h => by
    cases h with
    | tup hs ha => exact .tup (.of hs) (Dq.dps ds _ ha)
  | .dict _, _, h => by cases h
theorem Dq.dps {K : PySem.W.Frag} {G : Hp} : ∀ (ds : List PyData) (vs : List V), DqAll K G vs ds → DpAll K G vs ds
  | [], _, h => by cases h; exact .nil
  | d :: ds, _, h => by
    cases h with
    | cons h1 h2 => exact .cons (Dq.dp d _ h1) (Dq.dps ds _ h2)
end
mutual
theorem Dq.mono {K : PySem.W.Frag} {G G' : Hp} (e : Same G G') : ∀ (d : PyData) (v : V), Dq K G v d → Dq K G' v d
  | .none, _, h => by cases h; exact .non
  | .bool b, _, h => by cases h; exact .bl b
  | .int i, _, h => by cases h; exact .int i
  | .str x, _, h => by cases h; exact .str x
  | .list ds, _, h => by
    cases h with
    | lst hs ha => exact .lst (e _ _ hs) (Dq.monoAll e ds _ ha)
  | .tuple ds, _, h => by
    cases h with
    | tup hs ha => exact .tup (e _ _ hs) (Dq.monoAll e ds _ ha)
  | .dict _, _, h => by cases h
theorem Dq.monoAll {K : PySem.W.Frag} {G G' : Hp} (e : Same G G') : ∀ (ds : List PyData) (vs : List V), DqAll K G vs ds → DqAll K G' vs ds
  | [], _, h => by cases h; exact .nil
  | d :: ds, _, h => by
    cases h with
    | cons h1 h2 => exact .cons (Dq.mono e d _ h1) (Dq.monoAll e ds _ h2)
end
section
variable {K : PySem.W.Frag} {G : Hp}
theorem dpa_len : ∀ {vs : List V} {ds : List PyData}, DqAll K G vs ds → vs.length = ds.length
  | _, _, .nil => rfl
  | _, _, .cons _ t => congrArg (· + 1) (dpa_len t)
theorem dpa_get : ∀ {vs : List V} {ds : List PyData} {i : Nat} {d : PyData}, DqAll K G vs ds → ds[i]? = some d → ∃ v, vs[i]? = some v ∧ Dq K G v d
  | _, _, _, _, .nil, e => by simp at e
  | _, _, 0, _, .cons h t, e => by
    have e1 := Option.some.inj e
    subst e1
    exact ⟨_, rfl, h⟩
  | _, _, i + 1, _, .cons h t, e => dpa_get (i := i) t e
theorem dpa_get' : ∀ {vs : List V} {ds : List PyData} {i : Nat} {v : V}, DqAll K G vs ds → vs[i]? = some v → ∃ d, ds[i]? = some d ∧ Dq K G v d
  | _, _, _, _, .nil, e => by simp at e
  | _, _, 0, _, .cons h t, e => by
    have e1 := Option.some.inj e
    subst e1
    exact ⟨_, rfl, h⟩
  | _, _, i + 1, _, .cons h t, e => dpa_get' (i := i) t e
theorem dpa_app : ∀ {vs ws : List V} {ds es : List PyData}, DqAll K G vs ds → DqAll K G ws es → DqAll K G (vs ++ ws) (ds ++ es)
  | _, _, _, _, .nil, h => h
  | _, _, _, _, .cons a b, h => .cons a (dpa_app b h)
theorem dpa_one {v : V} {d : PyData} (h : Dq K G v d) : DqAll K G [v] [d] := .cons h .nil
theorem dpa_take : ∀ {vs : List V} {ds : List PyData} (n : Nat), DqAll K G vs ds → DqAll K G (vs.take n) (ds.take n)
  | _, _, 0, _ => .nil
  | _, _, n + 1, .nil => .nil
  | _, _, n + 1, .cons a b => .cons a (dpa_take n b)
theorem dpa_drop : ∀ {vs : List V} {ds : List PyData} (n : Nat), DqAll K G vs ds → DqAll K G (vs.drop n) (ds.drop n)
  | _, _, 0, h => h
  | _, _, n + 1, .nil => .nil
  | _, _, n + 1, .cons a b => dpa_drop n b
theorem dp_str {v : V} {x : Str} (h : Dq K G v (.str x)) : v = .str x := by cases h; rfl
theorem dp_int {v : V} {x : Int} (h : Dq K G v (.int x)) : v = .int x := by cases h; rfl
theorem dp_bool {v : V} {x : Bool} (h : Dq K G v (.bool x)) : v = .bl x := by cases h; rfl
theorem dp_none {v : V} (h : Dq K G v .none) : v = .non := by cases h; rfl
theorem dp_list {v : V} {ds : List PyData} (h : Dq K G v (.list ds)) : ∃ a xs, v = .ref a ∧ G a = some (.lst xs) ∧ DqAll K G xs ds := by
  cases h with
  | lst hs ha => exact ⟨_, _, rfl, hs, ha⟩
theorem dp_tuple {v : V} {ds : List PyData} (h : Dq K G v (.tuple ds)) : ∃ a xs, v = .ref a ∧ G a = some (.tup xs) ∧ DqAll K G xs ds := by
  cases h with
  | tup hs ha => exact ⟨_, _, rfl, hs, ha⟩
theorem dpa_strs : ∀ {xs : List Str} {vs : List V}, DqAll K G vs (xs.map PyData.str) → vs = xs.map V.str
  | [], _, .nil => rfl
  | x :: xs, _, .cons h t => by rw [dp_str h, dpa_strs t]; rfl
theorem dpa_ints : ∀ {xs : List Int} {vs : List V}, DqAll K G vs (xs.map PyData.int) → vs = xs.map V.int
  | [], _, .nil => rfl
  | x :: xs, _, .cons h t => by rw [dp_int h, dpa_ints t]; rfl
theorem dpa_bools : ∀ {xs : List Bool} {vs : List V}, DqAll K G vs (xs.map PyData.bool) → vs = xs.map V.bl
  | [], _, .nil => rfl
  | x :: xs, _, .cons h t => by rw [dp_bool h, dpa_bools t]; rfl
theorem dpa_of_strs : ∀ {xs : List Str}, DqAll K G (xs.map V.str) (xs.map PyData.str)
  | [] => .nil
  | x :: xs => .cons (.str x) dpa_of_strs
theorem dpa_of_ints : ∀ {xs : List Int}, DqAll K G (xs.map V.int) (xs.map PyData.int)
  | [] => .nil
  | x :: xs => .cons (.int x) dpa_of_ints
end

/-! ### slots -/
/-- a thing of one's own shape: what holds of it (what stood at the entry, what is known, what stands, the value), and that a step leaves it alone -/
structure Spc where
  ok : Hp → Hp → Hp → V → Prop
  step : ∀ (M : Addr → Prop) (H0 G H G2 H2 : Hp) (v : V), (∀ a xs, H0 a = none → H a = some (.lst xs) → ¬ M a) → Fr M G H G2 H2 → ok H0 G H v → ok H0 G2 H2 v
/-- what a slot holds: nothing that is known; data for good; a list of one's own that grows; a dict of one's own; a dict to be read; the address p -/
inductive Sl where
  | un
  | dat (d : PyData)
  | own (ds : List PyData)
  | dic (kvs : List (Key × V))
  | dir (kvs : List (Key × V))
  | adr (p : Addr)
  | spc (S : Spc)
  | pol (p : Addr)
/-- a def's run: what may change, what holds of that, what was known and stood at the entry -/
structure Cn where
  K : PySem.W.Frag
  M : Addr → Prop
  I : Hp → Prop
  G0 : Hp
  H0 : Hp
  hM : ∀ a, M a → ∃ u, H0 a = some u
  hI : ∀ H H' : Hp, (∀ a o, M a → H a = some o → H' a = some o) → I H → I H'
def SlOk (C : Cn) (G H : Hp) : Sl → Option V → Prop
  | .un, _ => True
  | .dat d, o => ∃ v, o = some v ∧ Dq C.K G v d
  | .own ds, o => ∃ l vs, o = some (.ref l) ∧ C.H0 l = none ∧ G l = none ∧ H l = some (.lst vs) ∧ DqAll C.K G vs ds
  | .dic kvs, o => ∃ a, o = some (.ref a) ∧ C.H0 a = none ∧ G a = none ∧ H a = some (.dK kvs)
  | .dir kvs, o => ∃ a, o = some (.ref a) ∧ ¬ C.M a ∧ H a = some (.dK kvs)
  | .adr p, o => o = some (.ref p)
  | .spc S, o => ∃ v, o = some v ∧ S.ok C.H0 G H v
  | .pol p, o => o = some (.ref p) ∧ C.M p ∧ G p = none ∧ ∃ u, H p = some u
structure Fm (C : Cn) (σ : St) (Γ : List Sl) (G H : Hp) : Prop where
  fr : Fr C.M C.G0 C.H0 G H
  inv : C.I H
  len : σ.length = Γ.length
  sl : ∀ (i : Nat) (s : Sl), Γ[i]? = some s → ∃ o, σ[i]? = some o ∧ SlOk C G H s o
section
variable {C : Cn} {σ : St} {Γ : List Sl} {G H G2 H2 : Hp}
theorem Cn.young (C : Cn) {a : Addr} (h : C.H0 a = none) : ¬ C.M a := fun m => by
  obtain ⟨u, e⟩ := C.hM a m
  rw [h] at e
  cases e
theorem Fm.nom (E : Fm C σ Γ G H) {a : Addr} (h : H a = none) : ¬ C.M a := fun m => by
  obtain ⟨u, e⟩ := C.hM a m
  obtain ⟨z, ez⟩ := E.fr.live a u e
  rw [h] at ez
  cases ez
theorem Fm.h0 (E : Fm C σ Γ G H) {a : Addr} (h : H a = none) : C.H0 a = none := by
  cases e : C.H0 a with
  | none => rfl
  | some u =>
    obtain ⟨z, ez⟩ := E.fr.live a u e
    rw [h] at ez
    cases ez
/-- slots stand through a step that leaves alone what may not change -/
theorem SlOk.step {s : Sl} {o : Option V} (h : SlOk C G H s o) (f : Fr C.M G H G2 H2) : SlOk C G2 H2 s o := by
  cases s with
  | un => trivial
  | dat d =>
    obtain ⟨v, e, hd⟩ := h
    exact ⟨v, e, Dq.mono f.gg d v hd⟩
  | own ds =>
    obtain ⟨l, vs, e, h0, g, hl, ha⟩ := h
    refine ⟨l, vs, e, h0, ?_, f.hh l _ (C.young h0) hl, Dq.monoAll f.gg ds vs ha⟩
    cases q : G2 l with
    | none => rfl
    | some x =>
      obtain ⟨z, ez⟩ := f.fr l x _ q hl
      rw [g] at ez
      cases ez
  | dic kvs =>
    obtain ⟨a, e, h0, g, ha⟩ := h
    refine ⟨a, e, h0, ?_, f.hh a _ (C.young h0) ha⟩
    cases q : G2 a with
    | none => rfl
    | some x =>
      obtain ⟨z, ez⟩ := f.fr a x _ q ha
      rw [g] at ez
      cases ez
  | dir kvs =>
    obtain ⟨a, e, h0, ha⟩ := h
    exact ⟨a, e, h0, f.hh a _ h0 ha⟩
  | adr p => exact h
  | spc S =>
    obtain ⟨v, e, hv⟩ := h
    exact ⟨v, e, S.step C.M C.H0 G H G2 H2 v (fun a _ h0 _ => C.young h0) f hv⟩
  | pol p =>
    obtain ⟨e, m, g, u, hu⟩ := h
    refine ⟨e, m, ?_, f.live p u hu⟩
    cases q : G2 p with
    | none => rfl
    | some x =>
      obtain ⟨z, ez⟩ := f.fr p x u q hu
      rw [g] at ez
      cases ez
theorem Fm.stepM (E : Fm C σ Γ G H) (f : Fr C.M G H G2 H2) (hi : C.I H2) : Fm C σ Γ G2 H2 where
  fr := E.fr.transM f
  inv := hi
  len := E.len
  sl := fun i s e => by
    obtain ⟨o, eo, h⟩ := E.sl i s e
    exact ⟨o, eo, h.step f⟩
theorem Fm.step (E : Fm C σ Γ G H) (f : Fr M0 G H G2 H2) : Fm C σ Γ G2 H2 :=
  E.stepM f.of0 (C.hI H H2 (fun a o _ e => f.hh a o (fun z => z) e) E.inv)
theorem Fm.get (E : Fm C σ Γ G H) {i : Nat} {d : PyData} (h : Γ[i]? = some (.dat d)) : ∃ v, σ[i]? = some (some v) ∧ Dq C.K G v d := by
  obtain ⟨o, e, v, rfl, hd⟩ := E.sl i _ h
  exact ⟨v, e, hd⟩
theorem Fm.set (E : Fm C σ Γ G H) {i : Nat} {s : Sl} {o : Option V} (h : SlOk C G H s o) : Fm C (σ.set i o) (Γ.set i s) G H where
  fr := E.fr
  inv := E.inv
  len := by rw [List.length_set, List.length_set, E.len]
  sl := fun j t e => by
    by_cases hj : i = j
    · subst hj
      by_cases hl : i < Γ.length
      · rw [List.getElem?_set_self hl] at e
        have e1 := Option.some.inj e
        subst e1
        refine ⟨o, ?_, h⟩
        rw [List.getElem?_set_self (by rw [E.len]; exact hl)]
      · rw [List.getElem?_eq_none (by rw [List.length_set]; omega)] at e
        cases e
    · rw [List.getElem?_set_ne hj] at e ⊢
      exact E.sl j t e
theorem Fm.setD (E : Fm C σ Γ G H) {i : Nat} {v : V} {d : PyData} (h : Dq C.K G v d) : Fm C (σ.set i (some v)) (Γ.set i (.dat d)) G H := E.set ⟨v, rfl, h⟩
end
/-- the slots forgotten -/
def wipeS (Γ : List Sl) : List Nat → List Sl
  | [] => Γ
  | v :: vs => (wipeS Γ vs).set v .un
theorem Fm.wipe {C : Cn} {σ : St} {Γ : List Sl} {G H : Hp} (E : Fm C σ Γ G H) : ∀ vs : List Nat, Fm C (wipe σ vs) (wipeS Γ vs) G H
  | [] => E
  | v :: vs => (Fm.wipe E vs).set (s := .un) trivial
theorem wipe_mem {σ : St} {i : Nat} {o : Option V} : ∀ {vs : List Nat}, i ∈ vs → L2.wipe (σ.set i o) vs = L2.wipe σ vs
  | [], h => by cases h
  | v :: vs, h => by
    show (L2.wipe (σ.set i o) vs).set v none = (L2.wipe σ vs).set v none
    by_cases hi : i ∈ vs
    · rw [wipe_mem hi]
    · have e : i = v := by
        rcases List.mem_cons.mp h with q | q
        · exact q
        · exact absurd q hi
      subst e
      apply List.ext_getElem?
      intro j
      by_cases hj : i = j
      · subst hj
        by_cases hl : i < σ.length
        · rw [List.getElem?_set_self (by rw [wipe_length, List.length_set]; exact hl), List.getElem?_set_self (by rw [wipe_length]; exact hl)]
        · rw [List.getElem?_eq_none (by rw [List.length_set, wipe_length, List.length_set]; omega), List.getElem?_eq_none (by rw [List.length_set, wipe_length]; omega)]
      · rw [List.getElem?_set_ne hj, List.getElem?_set_ne hj]
        exact wipe_get hj
where
  wipe_get {σ : St} {i j : Nat} {o : Option V} (hj : i ≠ j) : ∀ {vs : List Nat}, (L2.wipe (σ.set i o) vs)[j]? = (L2.wipe σ vs)[j]?
    | [] => by
      show (σ.set i o)[j]? = σ[j]?
      rw [List.getElem?_set_ne hj]
    | v :: vs => by
      show ((L2.wipe (σ.set i o) vs).set v none)[j]? = ((L2.wipe σ vs).set v none)[j]?
      have ih := wipe_get (σ := σ) (o := o) hj (vs := vs)
      rw [List.getElem?_set, List.getElem?_set, ih, wipe_length, wipe_length, List.length_set]
theorem wipe_wipe {σ : St} (vs : List Nat) : ∀ ws : List Nat, (∀ w ∈ ws, w ∈ vs) → L2.wipe (L2.wipe σ ws) vs = L2.wipe σ vs
  | [], _ => rfl
  | w :: ws, h => by
    show L2.wipe ((L2.wipe σ ws).set w none) vs = L2.wipe σ vs
    rw [wipe_mem (h w (List.mem_cons_self ..))]
    exact wipe_wipe vs ws fun x hx => h x (List.mem_cons_of_mem _ hx)
end SN

/-! SN: what an expression, a test, a row of arguments is worth, by the data in the slots. -/
namespace SN
open PySem L2

def Ev (C : Cn) (te : TE) (Γ : List Sl) (P : PyData → Prop) : Prop := ∀ (σ : St) (G H : Hp), Fm C σ Γ G H → ∀ Q : VK, (∀ v d G2 H2, P d → Fr C.M G H G2 H2 → C.I H2 → Dq C.K G2 v d → Q v H2) → te σ H Q
abbrev EvD (C : Cn) (te : TE) (Γ : List Sl) (d : PyData) : Prop := Ev C te Γ fun z => z = d
def EvA (C : Cn) (ta : TA) (Γ : List Sl) (P : List PyData → Prop) : Prop := ∀ (σ : St) (G H : Hp), Fm C σ Γ G H → ∀ Q : List V → Hp → Prop, (∀ vs ds G2 H2, P ds → Fr C.M G H G2 H2 → C.I H2 → DqAll C.K G2 vs ds → Q vs H2) → ta σ H Q
abbrev EvAD (C : Cn) (ta : TA) (Γ : List Sl) (ds : List PyData) : Prop := EvA C ta Γ fun z => z = ds
def EvT (C : Cn) (tt : TT) (Γ : List Sl) (b : Bool) : Prop := ∀ (σ : St) (G H : Hp), Fm C σ Γ G H → ∀ Q : Bool → Hp → Prop, (∀ G2 H2, Fr C.M G H G2 H2 → C.I H2 → Q b H2) → tt σ H Q

section
variable {C : Cn} {Γ : List Sl} {ta tb tc te : TE} {t u : TT} {r r' : R2} {d e z : PyData} {P S : PyData → Prop}
theorem Ev.imp (h : Ev C te Γ P) (k : ∀ d, P d → S d) : Ev C te Γ S := fun σ G H E Q q => h σ G H E Q fun v d G2 H2 p => q v d G2 H2 (k d p)
theorem EvD.of (h : EvD C te Γ d) (e : d = z) : EvD C te Γ z := e ▸ h
theorem ev_var {i : Nat} (h : Γ[i]? = some (.dat d)) : EvD C (tVar i) Γ d := fun σ G H E Q q => by
  obtain ⟨v, e, hd⟩ := E.get h
  exact ⟨v, e, q v d G H rfl (Fr.refl E.fr.gh) E.inv hd⟩
theorem ev_int {i : Int} : EvD C (tC (.int i)) Γ (.int i) := fun σ G H E Q q => q _ _ G H rfl (Fr.refl E.fr.gh) E.inv (.int i)
theorem ev_str {x : Str} : EvD C (tC (.str x)) Γ (.str x) := fun σ G H E Q q => q _ _ G H rfl (Fr.refl E.fr.gh) E.inv (.str x)
theorem ev_bl {b : Bool} : EvD C (tC (.bl b)) Γ (.bool b) := fun σ G H E Q q => q _ _ G H rfl (Fr.refl E.fr.gh) E.inv (.bl b)
theorem ev_non : EvD C (tC .non) Γ .none := fun σ G H E Q q => q _ _ G H rfl (Fr.refl E.fr.gh) E.inv .non

/-! ### operations on two values -/
def OpOk (K : PySem.W.Frag) (r : R2) (d e : PyData) (S : PyData → Prop) : Prop := ∀ (x y : V) (G H : Hp), Same G H → Dq K G x d → Dq K G y e → ∀ Q : VK, (∀ v z G2 H2, S z → Fr M0 G H G2 H2 → Dq K G2 v z → Q v H2) → r x y H Q
abbrev OpD (K : PySem.W.Frag) (r : R2) (d e z : PyData) : Prop := OpOk K r d e fun w => w = z
theorem ev_opP {R : PyData → PyData → Prop} (h1 : Ev C ta Γ P) (h2 : ∀ d, P d → Ev C tb Γ (R d)) (h : ∀ d e, P d → R d e → OpOk C.K r d e S) : Ev C (tOp r ta tb) Γ S := fun σ G H E Q q => by
  refine h1 σ G H E _ fun x d G2 H2 p f i hx => ?_
  refine h2 d p σ G2 H2 (E.stepM f i) _ fun y e G3 H3 p2 f2 i2 hy => ?_
  refine h d e p p2 x y G3 H3 f2.gh (Dq.mono f2.gg d x hx) hy Q fun v z G4 H4 s f3 hz => ?_
  exact q v z G4 H4 s ((f.transM f2).trans0 f3) (C.hI H3 H4 (fun a o _ e => f3.hh a o (fun z => z) e) i2) hz
theorem ev_op (h1 : EvD C ta Γ d) (h2 : EvD C tb Γ e) (h : OpOk C.K r d e S) : Ev C (tOp r ta tb) Γ S :=
  ev_opP h1 (fun _ _ => h2) fun d' e' p q => by subst p; subst q; exact h
/-- operations that leave the heap alone and give a flat value -/
theorem oo_flat {K : PySem.W.Frag} {v : V} (hv : ∀ G, Dq K G v z) (h : ∀ (x y : V) (G H : Hp), Same G H → Dq K G x d → Dq K G y e → ∀ Q : VK, Q v H → r x y H Q) : OpD K r d e z :=
  fun x y G H s hx hy Q q => h x y G H s hx hy Q (q v z G H rfl (Fr.refl s) (hv G))
variable {K : PySem.W.Frag}
theorem oo_i {f : Int → Int → Int} {i j : Int} : OpD K (rI0 fun i j => .int (f i j)) (.int i) (.int j) (.int (f i j)) := oo_flat (v := .int (f i j)) (fun _ => .int _) fun x y G H s hx hy Q q => by
  rw [dp_int hx, dp_int hy]
  exact ⟨i, j, rfl, rfl, q⟩
theorem oo_b {f : Int → Int → Bool} {i j : Int} : OpD K (rI0 fun i j => .bl (f i j)) (.int i) (.int j) (.bool (f i j)) := oo_flat (v := .bl (f i j)) (fun _ => .bl _) fun x y G H s hx hy Q q => by
  rw [dp_int hx, dp_int hy]
  exact ⟨i, j, rfl, rfl, q⟩
theorem oo_ic {Cd : Int → Int → Prop} {f : Int → Int → Int} {i j : Int} (hc : Cd i j) : OpD K (rI Cd fun i j => .int (f i j)) (.int i) (.int j) (.int (f i j)) := oo_flat (v := .int (f i j)) (fun _ => .int _) fun x y G H s hx hy Q q => by
  rw [dp_int hx, dp_int hy]
  exact ⟨i, j, rfl, rfl, hc, q⟩
theorem oo_eqS {a b : Str} : OpD K rEq (.str a) (.str b) (.bool (decide (a = b))) := oo_flat (v := .bl (decide (a = b))) (fun _ => .bl _) fun x y G H s hx hy Q q => by
  rw [dp_str hx, dp_str hy]
  refine ⟨rfl, ?_⟩
  rw [show decide (V.str a = V.str b) = decide (a = b) from decide_eq_decide.mpr ⟨V.str.inj, congrArg V.str⟩]
  exact q
theorem oo_neI {a b : Int} : OpD K rNe (.int a) (.int b) (.bool (!decide (a = b))) := oo_flat (v := .bl (!decide (a = b))) (fun _ => .bl _) fun x y G H s hx hy Q q => by
  rw [dp_int hx, dp_int hy]
  refine ⟨rfl, ?_⟩
  rw [show decide (V.int a = V.int b) = decide (a = b) from decide_eq_decide.mpr ⟨V.int.inj, congrArg V.int⟩]
  exact q
theorem oo_eqI {a b : Int} : OpD K rEq (.int a) (.int b) (.bool (decide (a = b))) := oo_flat (v := .bl (decide (a = b))) (fun _ => .bl _) fun x y G H s hx hy Q q => by
  rw [dp_int hx, dp_int hy]
  refine ⟨rfl, ?_⟩
  rw [show decide (V.int a = V.int b) = decide (a = b) from decide_eq_decide.mpr ⟨V.int.inj, congrArg V.int⟩]
  exact q
theorem oo_isN : OpD K (fun x y H Q => y = .non ∧ Q (.bl (decide (x = .non))) H) .none .none (.bool true) := oo_flat (v := .bl true) (fun _ => .bl _) fun x y G H s hx hy Q q => by
  rw [dp_none hx, dp_none hy]
  exact ⟨rfl, q⟩
theorem oo_isNL {ds : List PyData} : OpD K (fun x y H Q => y = .non ∧ Q (.bl (decide (x = .non))) H) (.list ds) .none (.bool false) := oo_flat (v := .bl false) (fun _ => .bl _) fun x y G H s hx hy Q q => by
  obtain ⟨a, xs, rfl, _⟩ := dp_list hx
  rw [dp_none hy]
  exact ⟨rfl, q⟩
theorem oo_notN : OpD K (fun x y H Q => y = .non ∧ Q (.bl (!decide (x = .non))) H) .none .none (.bool false) := oo_flat (v := .bl false) (fun _ => .bl _) fun x y G H s hx hy Q q => by
  rw [dp_none hx, dp_none hy]
  exact ⟨rfl, q⟩
theorem oo_ixL {ds : List PyData} {i : Int} (h : atI ds i = some z) : OpD K (rIxL K) (.list ds) (.int i) z := fun x y G H s hx hy Q q => by
  obtain ⟨a, xs, rfl, ha, hx⟩ := dp_list hx
  rw [dp_int hy]
  have hl := dpa_len hx
  unfold atI at h
  rw [← hl] at h
  obtain ⟨j, hj, hz⟩ := Option.bind_eq_some_iff.mp h
  obtain ⟨v, ev, hv⟩ := dpa_get hx hz
  refine ⟨a, xs, i, v, rfl, rfl, .of (s _ _ ha), ?_, q v z G H rfl (Fr.refl s) hv⟩
  unfold atI
  rw [hj]
  exact ev
theorem oo_ixT {ds : List PyData} {i : Int} (h : atI ds i = some z) : OpD K (rIxT K) (.tuple ds) (.int i) z := fun x y G H s hx hy Q q => by
  obtain ⟨a, xs, rfl, ha, hx⟩ := dp_tuple hx
  rw [dp_int hy]
  have hl := dpa_len hx
  unfold atI at h
  rw [← hl] at h
  obtain ⟨j, hj, hz⟩ := Option.bind_eq_some_iff.mp h
  obtain ⟨v, ev, hv⟩ := dpa_get hx hz
  refine ⟨a, xs, i, v, rfl, rfl, .of (s _ _ ha), ?_, q v z G H rfl (Fr.refl s) hv⟩
  unfold atI
  rw [hj]
  exact ev
theorem oo_ixS {x : Str} {i : Int} {c : Nat} (hl : x.length ≤ 1000) (h : atI x.cps.toList i = some c) : OpD K rIxS (.str x) (.int i) (.str ⟨#[c]⟩) := oo_flat (v := .str ⟨#[c]⟩) (fun _ => .str _) fun v y G H s hx hy Q q => by
  rw [dp_str hx, dp_int hy]
  exact ⟨x, i, c, rfl, rfl, Nat.le_of_lt (small1000 hl), h, q⟩
theorem inV_strs (x : Str) : ∀ xs : List Str, inV (.str x) (xs.map V.str) = decide (x ∈ xs)
  | [] => rfl
  | y :: ys => by
    show (eqV (.str y) (.str x) || inV (.str x) (ys.map V.str)) = _
    rw [inV_strs x ys]
    show ((y == x) || decide (x ∈ ys)) = decide (x ∈ y :: ys)
    by_cases h : y = x
    · subst h; simp
    · have h' : ¬ x = y := fun q => h q.symm
      simp [h, h']
theorem inV_ints (x : Int) : ∀ xs : List Int, inV (.int x) (xs.map V.int) = decide (x ∈ xs)
  | [] => rfl
  | y :: ys => by
    show (eqV (.int y) (.int x) || inV (.int x) (ys.map V.int)) = _
    rw [inV_ints x ys]
    show ((y == x) || decide (x ∈ ys)) = decide (x ∈ y :: ys)
    by_cases h : y = x
    · subst h; simp
    · have h' : ¬ x = y := fun q => h q.symm
      simp [h, h']
theorem flat_strs (xs : List Str) : (xs.map V.str).all flatV = true := List.all_eq_true.mpr fun v hv => by
  obtain ⟨x, _, rfl⟩ := List.mem_map.mp hv
  rfl
theorem flat_ints (xs : List Int) : (xs.map V.int).all flatV = true := List.all_eq_true.mpr fun v hv => by
  obtain ⟨x, _, rfl⟩ := List.mem_map.mp hv
  rfl
/-- the reading at a list that stands at l -/
theorem rin_strs {neg : Bool} {x : Str} {xs : List Str} {l : Addr} {H : Hp} {Q : VK} (h : H l = some (.lst (xs.map V.str))) (q : Q (.bl (if neg then !decide (x ∈ xs) else decide (x ∈ xs))) H) : rIn K neg (.str x) (.ref l) H Q :=
  ⟨l, _, rfl, .inl (.of h), rfl, flat_strs xs, by rw [inV_strs]; exact q⟩
theorem rin_ints {neg : Bool} {x : Int} {xs : List Int} {l : Addr} {H : Hp} {Q : VK} (h : H l = some (.lst (xs.map V.int))) (q : Q (.bl (if neg then !decide (x ∈ xs) else decide (x ∈ xs))) H) : rIn K neg (.int x) (.ref l) H Q :=
  ⟨l, _, rfl, .inl (.of h), rfl, flat_ints xs, by rw [inV_ints]; exact q⟩
theorem oo_inS {neg : Bool} {x : Str} {xs : List Str} : OpD K (rIn K neg) (.str x) (.list (xs.map PyData.str)) (.bool (if neg then !decide (x ∈ xs) else decide (x ∈ xs))) :=
  oo_flat (v := .bl _) (fun _ => .bl _) fun v y G H s hx hy Q q => by
    obtain ⟨a, vs, rfl, ha, hv⟩ := dp_list hy
    have e := dpa_strs hv
    subst e
    rw [dp_str hx]
    exact rin_strs (s _ _ ha) q
/-- an own list, read by an operation that gives a flat value -/
theorem ev_own2 {i : Nat} {ds : List PyData} {v : V} (h1 : EvD C ta Γ d) (hi : Γ[i]? = some (.own ds)) (hv : ∀ G, Dq C.K G v z)
    (h : ∀ (x : V) (l : Addr) (vs : List V) (G H : Hp), Dq C.K G x d → H l = some (.lst vs) → DqAll C.K G vs ds → ∀ Q : VK, Q v H → r x (.ref l) H Q) : EvD C (tOp r ta (tVar i)) Γ z := fun σ G H E Q q => by
  refine h1 σ G H E _ fun x d' G2 H2 p f iv hx => ?_
  subst p
  have E2 := E.stepM f iv
  obtain ⟨o, e, l, vs, rfl, _, _, hl, ha⟩ := E2.sl i _ hi
  exact ⟨.ref l, e, h x l vs G2 H2 hx hl ha Q (q v z G2 H2 rfl f iv (hv G2))⟩
theorem ev_inOwn {neg : Bool} {i : Nat} {x : Str} {xs : List Str} (h1 : EvD C ta Γ (.str x)) (hi : Γ[i]? = some (.own (xs.map PyData.str))) : EvD C (tOp (rIn C.K neg) ta (tVar i)) Γ (.bool (if neg then !decide (x ∈ xs) else decide (x ∈ xs))) :=
  ev_own2 (v := .bl _) h1 hi (fun _ => .bl _) fun v l vs G H hx hl ha Q q => by
    have e := dpa_strs ha
    subst e
    rw [dp_str hx]
    exact rin_strs hl q
theorem ev_inOwnI {neg : Bool} {i : Nat} {x : Int} {xs : List Int} (h1 : EvD C ta Γ (.int x)) (hi : Γ[i]? = some (.own (xs.map PyData.int))) : EvD C (tOp (rIn C.K neg) ta (tVar i)) Γ (.bool (if neg then !decide (x ∈ xs) else decide (x ∈ xs))) :=
  ev_own2 (v := .bl _) h1 hi (fun _ => .bl _) fun v l vs G H hx hl ha Q q => by
    have e := dpa_ints ha
    subst e
    rw [dp_int hx]
    exact rin_ints hl q
theorem oo_inText {a b : Str} : OpD K (fun x y H Q => ∃ i j, x = .str i ∧ y = .str j ∧ Q (.bl (!(Builtin.Str.occurrences j i 0 j.length 1).isEmpty)) H) (.str a) (.str b) (.bool (!(Builtin.Str.occurrences b a 0 b.length 1).isEmpty)) :=
  oo_flat (v := .bl _) (fun _ => .bl _) fun v y G H s hx hy Q q => by
    rw [dp_str hx, dp_str hy]
    exact ⟨a, b, rfl, rfl, q⟩
theorem oo_inSign {c : Nat} {b : Str} : OpD K (fun x y H Q => ∃ (c : Nat) (z : Str), x = .str ⟨#[c]⟩ ∧ y = .str z ∧ Q (.bl (decide (c ∈ z.cps.toList))) H) (.str ⟨#[c]⟩) (.str b) (.bool (decide (c ∈ b.cps.toList))) :=
  oo_flat (v := .bl _) (fun _ => .bl _) fun v y G H s hx hy Q q => by
    rw [dp_str hx, dp_str hy]
    exact ⟨c, b, rfl, rfl, q⟩
theorem oo_addS {a b : Str} (h : a.length + b.length ≤ 1000) : OpD K (fun x y H Q => ∃ i j, x = .str i ∧ y = .str j ∧ i.length + j.length ≤ sizeLine ∧ Q (.str (i ++ j)) H) (.str a) (.str b) (.str (a ++ b)) :=
  oo_flat (v := .str _) (fun _ => .str _) fun v y G H s hx hy Q q => by
    rw [dp_str hx, dp_str hy]
    exact ⟨a, b, rfl, rfl, Nat.le_of_lt (small1000 h), q⟩
theorem oo_cat {ds es : List PyData} (h : ds.length + es.length ≤ 1000) : OpD K rCat (.list ds) (.list es) (.list (ds ++ es)) := fun x y G H s hx hy Q q => by
  obtain ⟨a, xs, rfl, ha, hx⟩ := dp_list hx
  obtain ⟨b, ys, rfl, hb, hy⟩ := dp_list hy
  refine ⟨a, b, xs, ys, rfl, rfl, s _ _ ha, s _ _ hb, Nat.le_of_lt (small1000 (by rw [dpa_len hx, dpa_len hy]; exact h)), fun p hp => ?_⟩
  have f : Fr M0 G H (upd G p (.lst (xs ++ ys))) (upd H p (.lst (xs ++ ys))) := Fr.new s hp
  exact q (.ref p) _ _ _ rfl f (.lst upd_same (Dq.monoAll f.gg _ _ (dpa_app hx hy)))
theorem oo_eqD (sd : SeqAt.shaped d = true) (se : SeqAt.shaped e = true) : OpD K (rEqD K) d e (.bool (PyData.eqv d e)) := oo_flat (v := .bl _) (fun _ => .bl _) fun x y G H s hx hy Q q =>
  ⟨d, e, Dq.dp d x (Dq.mono s d x hx), Dq.dp e y (Dq.mono s e y hy), sd, se, q⟩
theorem oo_neD (sd : SeqAt.shaped d = true) (se : SeqAt.shaped e = true) : OpD K (rNeD K) d e (.bool (!PyData.eqv d e)) := oo_flat (v := .bl _) (fun _ => .bl _) fun x y G H s hx hy Q q =>
  ⟨d, e, Dq.dp d x (Dq.mono s d x hx), Dq.dp e y (Dq.mono s e y hy), sd, se, q⟩
theorem oo_inD {ds : List PyData} (sd : SeqAt.shaped d = true) (se : SeqAt.shaped (.list ds) = true) : OpD K (rInD K) d (.list ds) (.bool (ds.any fun z => PyData.eqv z d)) := oo_flat (v := .bl _) (fun _ => .bl _) fun x y G H s hx hy Q q =>
  ⟨d, ds, Dq.dp d x (Dq.mono s d x hx), Dq.dp _ y (Dq.mono s _ y hy), sd, se, q⟩
/-- a < b < c, the first so -/
theorem ev_chain {f : PyData} {b : Bool} (h1 : EvD C ta Γ d) (h2 : EvD C tb Γ e) (h3 : EvD C tc Γ f) (o1 : OpD C.K r d e (.bool true)) (o2 : OpD C.K r' e f (.bool b)) : EvD C (tChain r r' ta tb tc) Γ (.bool b) := fun σ G H E Q q => by
  refine h1 σ G H E _ fun x d' G2 H2 p f1 i1 hx => ?_
  subst p
  have E2 := E.stepM f1 i1
  refine h2 σ G2 H2 E2 _ fun y e' G3 H3 p f2 i2 hy => ?_
  subst p
  have E3 := E2.stepM f2 i2
  refine o1 x y G3 H3 f2.gh (Dq.mono f2.gg d' x hx) hy _ fun v z G4 H4 p f3 hv => ?_
  subst p
  have i3 := C.hI H3 H4 (fun a o _ e => f3.hh a o (fun z => z) e) i2
  have E4 := E3.stepM f3.of0 i3
  refine ⟨true, dp_bool hv, ?_⟩
  refine (if_pos rfl).mpr ?_
  refine h3 σ G4 H4 E4 _ fun w f' G5 H5 p f4 i4 hw => ?_
  subst p
  refine o2 y w G5 H5 f4.gh (Dq.mono (f3.gg.trans f4.gg) e' y hy) hw _ fun v' z G6 H6 p f5 hv' => ?_
  subst p
  exact q v' _ G6 H6 rfl ((((f1.transM f2).trans0 f3).transM f4).trans0 f5) (C.hI H5 H6 (fun a o _ e => f5.hh a o (fun z => z) e) i4) hv'

/-! ### rows of arguments, displays, calls -/
variable {tr : TA} {ds : List PyData}
theorem ea_nil : EvAD C tNil Γ [] := fun σ G H E Q q => q [] [] G H rfl (Fr.refl E.fr.gh) E.inv .nil
theorem ea_consP {R : PyData → List PyData → Prop} (h : Ev C te Γ P) (hr : ∀ d, P d → EvA C tr Γ (R d)) : EvA C (tCons te tr) Γ fun z => ∃ d ds, z = d :: ds ∧ P d ∧ R d ds := fun σ G H E Q q => by
  refine h σ G H E _ fun x d G2 H2 p f i hx => ?_
  refine hr d p σ G2 H2 (E.stepM f i) _ fun vs ds G3 H3 p2 f2 i2 hv => ?_
  exact q (x :: vs) (d :: ds) G3 H3 ⟨d, ds, rfl, p, p2⟩ (f.transM f2) i2 (.cons (Dq.mono f2.gg d x hx) hv)
theorem ea_cons (h : EvD C te Γ d) (hr : EvAD C tr Γ ds) : EvAD C (tCons te tr) Γ (d :: ds) := fun σ G H E Q q => by
  refine h σ G H E _ fun x d G2 H2 p f i hx => ?_
  refine hr σ G2 H2 (E.stepM f i) _ fun vs ds G3 H3 p2 f2 i2 hv => ?_
  subst p; subst p2
  exact q (x :: vs) _ G3 H3 rfl (f.transM f2) i2 (.cons (Dq.mono f2.gg _ x hx) hv)
theorem EvA.imp {PA R : List PyData → Prop} (h : EvA C tr Γ PA) (k : ∀ d, PA d → R d) : EvA C tr Γ R := fun σ G H E Q q => h σ G H E Q fun v d G2 H2 p => q v d G2 H2 (k d p)
theorem ev_tupP {PA : List PyData → Prop} (h : EvA C tr Γ PA) (hl : ∀ ds, PA ds → ds.length ≤ 1000) : Ev C (tTup tr) Γ fun z => ∃ ds, z = .tuple ds ∧ PA ds := fun σ G H E Q q => by
  refine h σ G H E _ fun vs ds G2 H2 p f i hv => ?_
  refine ⟨Nat.le_of_lt (small1000 (by rw [dpa_len hv]; exact hl ds p)), fun l hl => ?_⟩
  have f2 : Fr M0 G2 H2 (upd G2 l (.tup vs)) (upd H2 l (.tup vs)) := Fr.new f.gh hl
  exact q (.ref l) _ _ _ ⟨ds, rfl, p⟩ (f.trans0 f2) (C.hI _ _ (fun a o _ e => f2.hh a o (fun z => z) e) i) (.tup upd_same (Dq.monoAll f2.gg _ _ hv))
theorem ev_lstP {PA : List PyData → Prop} (h : EvA C tr Γ PA) (hl : ∀ ds, PA ds → ds.length ≤ 1000) : Ev C (tLst tr) Γ fun z => ∃ ds, z = .list ds ∧ PA ds := fun σ G H E Q q => by
  refine h σ G H E _ fun vs ds G2 H2 p f i hv => ?_
  refine ⟨Nat.le_of_lt (small1000 (by rw [dpa_len hv]; exact hl ds p)), fun l hl => ?_⟩
  have f2 : Fr M0 G2 H2 (upd G2 l (.lst vs)) (upd H2 l (.lst vs)) := Fr.new f.gh hl
  exact q (.ref l) _ _ _ ⟨ds, rfl, p⟩ (f.trans0 f2) (C.hI _ _ (fun a o _ e => f2.hh a o (fun z => z) e) i) (.lst upd_same (Dq.monoAll f2.gg _ _ hv))
theorem ev_tup (h : EvAD C tr Γ ds) (hl : ds.length ≤ 1000) : EvD C (tTup tr) Γ (.tuple ds) := (ev_tupP h fun z e => e ▸ hl).imp fun _ ⟨_, e, e2⟩ => e2 ▸ e
theorem ev_lst (h : EvAD C tr Γ ds) (hl : ds.length ≤ 1000) : EvD C (tLst tr) Γ (.list ds) := (ev_lstP h fun z e => e ▸ hl).imp fun _ ⟨_, e, e2⟩ => e2 ▸ e
/-- a built-in called with data -/
def CbOk (K : PySem.W.Frag) (r : List V → Hp → VK → Prop) (ds : List PyData) (S : PyData → Prop) : Prop := ∀ (vs : List V) (G H : Hp), Same G H → DqAll K G vs ds → ∀ Q : VK, (∀ v z G2 H2, S z → Fr M0 G H G2 H2 → Dq K G2 v z → Q v H2) → r vs H Q
theorem ev_cbP {rc : List V → Hp → VK → Prop} {PA : List PyData → Prop} (h : EvA C tr Γ PA) (hc : ∀ ds, PA ds → CbOk C.K rc ds S) : Ev C (tCB rc tr) Γ S := fun σ G H E Q q => by
  refine h σ G H E _ fun vs ds G2 H2 p f i hv => ?_
  refine hc ds p vs G2 H2 f.gh hv Q fun v z G3 H3 s f2 hz => ?_
  exact q v z G3 H3 s (f.trans0 f2) (C.hI _ _ (fun a o _ e => f2.hh a o (fun z => z) e) i) hz
theorem ev_cb {rc : List V → Hp → VK → Prop} (h : EvAD C tr Γ ds) (hc : CbOk C.K rc ds S) : Ev C (tCB rc tr) Γ S := ev_cbP h fun _ e => e ▸ hc
theorem cb_flat {rc : List V → Hp → VK → Prop} {v : V} (hv : ∀ G, Dq K G v z) (h : ∀ (vs : List V) (G H : Hp), Same G H → DqAll K G vs ds → ∀ Q : VK, Q v H → rc vs H Q) : CbOk K rc ds fun w => w = z :=
  fun vs G H s hx Q q => h vs G H s hx Q (q v z G H rfl (Fr.refl s) (hv G))
theorem cb_lenL {xs : List PyData} : CbOk K (fun xs H Q => ∃ x n, xs = [x] ∧ LenV K x H n ∧ Q (.int n) H) [.list xs] fun w => w = .int xs.length := cb_flat (v := .int xs.length) (fun _ => .int _) fun vs G H s hv Q q => by
  cases hv with
  | cons h t =>
    cases t
    obtain ⟨a, ys, rfl, ha, hy⟩ := dp_list h
    exact ⟨.ref a, ys.length, rfl, .inl ⟨ys, .of (s _ _ ha), rfl⟩, by rw [dpa_len hy]; exact q⟩
theorem cb_lenT {xs : List PyData} : CbOk K (fun xs H Q => ∃ x n, xs = [x] ∧ LenV K x H n ∧ Q (.int n) H) [.tuple xs] fun w => w = .int xs.length := cb_flat (v := .int xs.length) (fun _ => .int _) fun vs G H s hv Q q => by
  cases hv with
  | cons h t =>
    cases t
    obtain ⟨a, ys, rfl, ha, hy⟩ := dp_tuple h
    exact ⟨.ref a, ys.length, rfl, .inr ⟨ys, .of (s _ _ ha), rfl⟩, by rw [dpa_len hy]; exact q⟩
theorem cb_lenS {x : Str} (hl : x.length ≤ 1000) : CbOk K (fun xs H Q => ∃ x n, xs = [x] ∧ LenV K x H n ∧ Q (.int n) H) [.str x] fun w => w = .int x.length := cb_flat (v := .int x.length) (fun _ => .int _) fun vs G H s hv Q q => by
  cases hv with
  | cons h t =>
    cases t
    rw [dp_str h]
    exact ⟨.str x, x.length, rfl, ⟨Nat.le_of_lt (small1000 hl), rfl⟩, q⟩
/-- len of an own list -/
theorem ev_lenOwn {i : Nat} (hi : Γ[i]? = some (.own ds)) : EvD C (tCB (fun xs H Q => ∃ x n, xs = [x] ∧ LenV C.K x H n ∧ Q (.int n) H) (tCons (tVar i) tNil)) Γ (.int ds.length) := fun σ G H E Q q => by
  obtain ⟨o, e, l, vs, rfl, _, _, hl, ha⟩ := E.sl i _ hi
  exact ⟨.ref l, e, .ref l, vs.length, rfl, .inl ⟨vs, .of hl, rfl⟩, by rw [dpa_len ha]; exact q _ _ G H rfl (Fr.refl E.fr.gh) E.inv (.int _)⟩
theorem cb_all {bs : List Bool} : CbOk K (rAll K) [.list (bs.map PyData.bool)] fun w => w = .bool (bs.all id) := cb_flat (v := .bl _) (fun _ => .bl _) fun vs G H s hv Q q => by
  cases hv with
  | cons h t =>
    cases t
    obtain ⟨a, ys, rfl, ha, hy⟩ := dp_list h
    have e := dpa_bools hy
    subst e
    exact ⟨a, bs, rfl, .of (s _ _ ha), q⟩
theorem cb_int1b {b : Bool} : CbOk K (fun xs H Q => (∃ i, xs = [.int i] ∧ Q (.int i) H) ∨ ∃ k, xs = [.bl k] ∧ Q (.int (if k then 1 else 0)) H) [.bool b] fun w => w = .int (if b then 1 else 0) := cb_flat (v := .int _) (fun _ => .int _) fun vs G H s hv Q q => by
  cases hv with
  | cons h t =>
    cases t
    rw [dp_bool h]
    exact .inr ⟨b, rfl, q⟩
theorem cb_max {i j : Int} : CbOk K (fun xs H Q => ∃ i j, xs = [.int i, .int j] ∧ Q (.int (if j > i then j else i)) H) [.int i, .int j] fun w => w = .int (if j > i then j else i) := cb_flat (v := .int _) (fun _ => .int _) fun vs G H s hv Q q => by
  cases hv with
  | cons h t =>
    cases t with
    | cons h2 t =>
      cases t
      rw [dp_int h, dp_int h2]
      exact ⟨i, j, rfl, q⟩
theorem cb_min {i j : Int} : CbOk K (fun xs H Q => ∃ i j, xs = [.int i, .int j] ∧ Q (.int (if j < i then j else i)) H) [.int i, .int j] fun w => w = .int (if j < i then j else i) := cb_flat (v := .int _) (fun _ => .int _) fun vs G H s hv Q q => by
  cases hv with
  | cons h t =>
    cases t with
    | cons h2 t =>
      cases t
      rw [dp_int h, dp_int h2]
      exact ⟨i, j, rfl, q⟩
theorem cb_list {xs : List PyData} : CbOk K (fun xs H Q => ∃ p ys, xs = [.ref p] ∧ (SqL K H p ys ∨ SqT K H p ys) ∧ ∀ l, H l = none → Q (.ref l) (upd H l (.lst ys))) [.list xs] fun w => w = .list xs := fun vs G H s hv Q q => by
  cases hv with
  | cons h t =>
    cases t
    obtain ⟨a, ys, rfl, ha, hy⟩ := dp_list h
    refine ⟨a, ys, rfl, .inl (.of (s _ _ ha)), fun p hp => ?_⟩
    have f : Fr M0 G H (upd G p (.lst ys)) (upd H p (.lst ys)) := Fr.new s hp
    exact q (.ref p) _ _ _ rfl f (.lst upd_same (Dq.monoAll f.gg _ _ hy))
/-- isinstance(x, T) -/
def tyN : PyData → String
  | .none => "NoneType"
  | .bool _ => "bool"
  | .int _ => "int"
  | .str _ => "str"
  | .list _ => "list"
  | .tuple _ => "tuple"
  | .dict _ => "dict"
theorem ty_of {G H : Hp} {x : V} (s : Same G H) (h : Dq K G x d) : TyOf K H x (.type (tyN d)) := by
  cases h with
  | non => exact .non
  | bl b => exact .bl b
  | int i => exact .int i
  | str y => exact .str y
  | lst h _ => exact .lst (s _ _ h)
  | tup h _ => exact .tup (s _ _ h)
theorem ev_isi {T : String} {b : Bool} (h : EvD C te Γ d) (hk : kitB (tyN d) T = some b) : EvD C (tCB (rIsi C.K) (tCons te (tCons (tC (.ty T)) tNil))) Γ (.bool b) := fun σ G H E Q q => by
  refine h σ G H E _ fun x d' G2 H2 p f i hx => ?_
  subst p
  exact ⟨x, .ty T, .type (tyN d'), .type T, b, rfl, .ty T, .base (ty_of f.gh hx), kit_ty hk, q _ _ G2 H2 rfl f i (.bl b)⟩

/-! ### a def called with data -/
/-- R ds z: called with ds it gives z, and leaves alone what stands -/
def pureSp (K : PySem.W.Frag) (R : List PyData → PyData → Prop) : Sp := fun vs H Q _ => ∃ (G : Hp) (ds : List PyData) (z : PyData), Same G H ∧ DqAll K G vs ds ∧ R ds z ∧ ∀ v G2 H2, Fr M0 G H G2 H2 → Dq K G2 v z → Q v H2
theorem ev_callP {R : List PyData → PyData → Prop} {E : XK} {PA : List PyData → Prop} (h : EvA C tr Γ PA) (hr : ∀ ds, PA ds → ∃ z, R ds z ∧ S z) : Ev C (tCall (pureSp C.K R) [] E tr) Γ S := fun σ G H Em Q q => by
  refine h σ G H Em _ fun vs ds G2 H2 p f i hv => ?_
  obtain ⟨z, hz, s⟩ := hr ds p
  refine ⟨G2, ds, z, f.gh, by rw [List.append_nil]; exact hv, hz, fun v G3 H3 f2 h3 => ?_⟩
  exact q v z G3 H3 s (f.trans0 f2) (C.hI _ _ (fun a o _ e => f2.hh a o (fun z => z) e) i) h3
theorem ev_call {R : List PyData → PyData → Prop} {E : XK} (h : EvAD C tr Γ ds) (hr : R ds z) : EvD C (tCall (pureSp C.K R) [] E tr) Γ z := ev_callP h fun _ e => ⟨z, e ▸ hr, rfl⟩

/-! ### tests, and, or -/
theorem et_test {b : Bool} (h : EvD C te Γ (.bool b)) : EvT C (tTest te) Γ b := fun σ G H E Q q => h σ G H E _ fun v d G2 H2 p f i hv => by
  subst p
  exact ⟨b, dp_bool hv, q G2 H2 f i⟩
theorem et_B {b : Bool} (h : EvD C te Γ (.bool b)) : EvT C (tB te) Γ b := fun σ G H E Q q => h σ G H E _ fun v d G2 H2 p f i hv => by
  subst p
  exact ⟨b, dp_bool hv, q G2 H2 f i⟩
theorem et_not {b : Bool} (h : EvT C t Γ b) : EvT C (tNot t) Γ (!b) := fun σ G H E Q q => h σ G H E _ fun G2 H2 f i => q G2 H2 f i
theorem et_notT (h : EvT C t Γ true) : EvT C (tNot t) Γ false := et_not h
theorem et_notF (h : EvT C t Γ false) : EvT C (tNot t) Γ true := et_not h
theorem et_orF {b : Bool} (h : EvT C t Γ false) (h2 : EvT C u Γ b) : EvT C (tOr t u) Γ b := fun σ G H E Q q => h σ G H E _ fun G2 H2 f i => by
  show u σ H2 Q
  exact h2 σ G2 H2 (E.stepM f i) Q fun G3 H3 f2 i2 => q G3 H3 (f.transM f2) i2
theorem et_andT {b : Bool} (h : EvT C t Γ true) (h2 : EvT C u Γ b) : EvT C (tAnd t u) Γ b := fun σ G H E Q q => h σ G H E _ fun G2 H2 f i => by
  show u σ H2 Q
  exact h2 σ G2 H2 (E.stepM f i) Q fun G3 H3 f2 i2 => q G3 H3 (f.transM f2) i2
theorem EvT.of {b b' : Bool} (h : EvT C t Γ b) (e : b = b') : EvT C t Γ b' := e ▸ h
theorem ev_andT (h : EvD C ta Γ (.bool true)) (h2 : Ev C tb Γ P) : Ev C (tAndV ta tb) Γ P := fun σ G H E Q q => h σ G H E _ fun v d G2 H2 p f i hv => by
  subst p
  refine ⟨true, dp_bool hv, ?_⟩
  refine (if_pos rfl).mpr ?_
  exact h2 σ G2 H2 (E.stepM f i) Q fun v d G3 H3 p f2 i2 => q v d G3 H3 p (f.transM f2) i2
theorem ev_notV {b : Bool} (h : EvD C ta Γ (.bool b)) : EvD C (tNotV ta) Γ (.bool (!b)) := fun σ G H E Q q => h σ G H E _ fun v d G2 H2 p f i hv => by
  subst p
  exact ⟨b, dp_bool hv, q _ _ G2 H2 rfl f i (.bl _)⟩
end
end SN

/-! SN, the mathematics: books, names, parts, rows of a text. -/
namespace SN
open PySem
abbrev Pr := Str × Str
abbrev Deal := Str × List Pr × List Pr
abbrev Book := List (Str × Bool) × List Deal
def sAlpha : Str := Str.ofString "abcdefghijklmnopqrstuvwxyz"
def sRead : Str := Str.ofString "read"
def sWrite : Str := Str.ofString "write"
def sAsk : Str := Str.ofString "ask"
def sMany : Str := Str.ofString "many"
def sOne : Str := Str.ofString "one"
def dds : List Str := [sRead, sWrite, sAsk]
def alpha : List Nat := sAlpha.cps.toList
theorem alpha_lt : ∀ c ∈ alpha, 97 ≤ c ∧ c ≤ 122 := by decide +kernel
theorem alpha_nd : alpha.Nodup := by decide +kernel
theorem alpha_len : alpha.length = 26 := by decide +kernel
def sgn (x : Str) : List Str := x.cps.toList.map fun c => ⟨#[c]⟩
theorem sgn_len (x : Str) : (sgn x).length = x.length := by
  unfold sgn
  rw [List.length_map, Array.length_toList]
  rfl
def IsLet (s : Str) : Prop := ∃ c, s = ⟨#[c]⟩ ∧ c ∈ alpha
def IsName (s : Str) : Prop := 1 ≤ s.length ∧ s.length ≤ 8 ∧ ∀ c ∈ s.cps.toList, c ∈ alpha
def RowOk (x : Str) (n : Nat) : Prop := x.length = n ∧ (∀ c ∈ x.cps.toList, c ∈ alpha) ∧ x.cps.toList.Nodup
theorem sgn_inj : ∀ {l m : List Nat}, l.map (fun c => (⟨#[c]⟩ : Str)) = m.map (fun c => (⟨#[c]⟩ : Str)) → l = m
  | [], [], _ => rfl
  | [], _ :: _, h => by simp at h
  | _ :: _, [], h => by simp at h
  | a :: l, b :: m, h => by
    rw [List.map_cons, List.map_cons] at h
    injection h with h1 h2
    have e : a = b := by
      have h3 := congrArg (fun s : Str => s.cps.toList) h1
      simpa using h3
    rw [e, sgn_inj h2]
theorem nd_map {α β : Type} {f : α → β} (hf : ∀ a b, f a = f b → a = b) : ∀ {l : List α}, l.Nodup → (l.map f).Nodup
  | [], _ => List.nodup_nil
  | a :: l, h => by
    rw [List.map_cons, List.nodup_cons]
    obtain ⟨h1, h2⟩ := List.nodup_cons.mp h
    refine ⟨fun m => ?_, nd_map hf h2⟩
    obtain ⟨b, hb, e⟩ := List.mem_map.mp m
    rw [hf b a e] at hb
    exact h1 hb
theorem sgn_nd {x : Str} (h : x.cps.toList.Nodup) : (sgn x).Nodup := nd_map (fun a b e => by
  have h3 := congrArg (fun s : Str => s.cps.toList) e
  simpa using h3) h
theorem sgn_let {x : Str} (h : ∀ c ∈ x.cps.toList, c ∈ alpha) : ∀ s ∈ sgn x, IsLet s := fun s hs => by
  obtain ⟨c, hc, rfl⟩ := List.mem_map.mp hs
  exact ⟨c, rfl, h c hc⟩

/-! ### what a book is -/
structure WD (kn : List Str) (d : Deal) : Prop where
  name : IsName d.1
  l1 : 1 ≤ d.2.1.length
  l4 : d.2.1.length ≤ 4
  lt : ∀ p ∈ d.2.1, IsLet p.1 ∧ p.2 ∈ kn
  nd : (d.2.1.map Prod.fst).Nodup
  s1 : 1 ≤ d.2.2.length
  s8 : d.2.2.length ≤ 8
  st : ∀ p ∈ d.2.2, p.1 ∈ dds ∧ p.2 ∈ d.2.1.map Prod.fst
  us : ∀ l ∈ d.2.1.map Prod.fst, l ∈ d.2.2.map Prod.snd
structure WB (b : Book) : Prop where
  k1 : 1 ≤ b.1.length
  k6 : b.1.length ≤ 6
  kn : ∀ k ∈ b.1, IsName k.1
  kd : (b.1.map Prod.fst).Nodup
  d1 : 1 ≤ b.2.length
  d8 : b.2.length ≤ 8
  ds : ∀ d ∈ b.2, WD (b.1.map Prod.fst) d
  dd : (b.2.map Prod.fst).Nodup
structure NOk (b : Book) (ks ds ls : List Str) : Prop where
  kl : ks.length = b.1.length
  kn : ∀ k ∈ ks, IsName k
  kd : ks.Nodup
  dl : ds.length = b.2.length
  dn : ∀ k ∈ ds, IsName k
  dd : ds.Nodup
  ll : ls.length = b.2.length
  lr : ∀ (i : Nat) d x, b.2[i]? = some d → ls[i]? = some x → RowOk x d.2.1.length

/-! ### called otherwise -/
def look (ks vs : List Str) (k : Str) : Str := ((ks.zip vs).lookup k).getD k
theorem look_get : ∀ {ks vs : List Str} {i : Nat} {k v : Str}, ks.Nodup → ks[i]? = some k → vs[i]? = some v → (ks.zip vs).lookup k = some v
  | [], _, _, _, _, _, h, _ => by simp at h
  | _ :: _, [], _, _, _, _, _, h => by simp at h
  | a :: ks, w :: vs, 0, k, v, _, h1, h2 => by
    cases h1; cases h2
    show (match a == a with | true => some w | false => _) = some w
    rw [beq_self_eq_true]
  | a :: ks, w :: vs, i + 1, k, v, nd, h1, h2 => by
    obtain ⟨n1, n2⟩ := List.nodup_cons.mp nd
    have hk : k ∈ ks := List.mem_of_getElem? (show ks[i]? = some k from h1)
    have ne : (k == a) = false := beq_eq_false_iff_ne.mpr fun e => n1 (e ▸ hk)
    show (match k == a with | true => some w | false => (ks.zip vs).lookup k) = some v
    rw [ne]
    exact look_get n2 h1 h2
theorem look_at {ks vs : List Str} {i : Nat} {k v : Str} (nd : ks.Nodup) (h1 : ks[i]? = some k) (h2 : vs[i]? = some v) : look ks vs k = v := by
  unfold look
  rw [look_get nd h1 h2]
  rfl
theorem get_len {α β : Type} {l : List α} {m : List β} (h : m.length = l.length) {i : Nat} {a : α} (e : l[i]? = some a) : ∃ b, m[i]? = some b := by
  have hi := (List.getElem?_eq_some_iff.mp e).1
  exact ⟨_, List.getElem?_eq_getElem (show i < m.length by omega)⟩
theorem look_map {ks vs : List Str} (nd : ks.Nodup) (hl : vs.length = ks.length) : ks.map (look ks vs) = vs := by
  apply List.ext_getElem?
  intro i
  rw [List.getElem?_map]
  cases e : ks[i]? with
  | none =>
    have h1 := List.getElem?_eq_none_iff.mp e
    rw [List.getElem?_eq_none (by omega)]
    rfl
  | some k =>
    obtain ⟨v, hv⟩ := get_len hl e
    rw [hv]
    show some (look ks vs k) = some v
    rw [look_at nd e hv]
theorem look_look {a b c : List Str} (na : a.Nodup) (nb : b.Nodup) (hb : b.length = a.length) (hc : c.length = a.length) {x : Str} (hx : x ∈ a) : look b c (look a b x) = look a c x := by
  obtain ⟨i, hi⟩ := List.mem_iff_getElem?.mp hx
  obtain ⟨y, hy⟩ := get_len hb hi
  obtain ⟨z, hz⟩ := get_len hc hi
  rw [look_at na hi hy, look_at na hi hz, look_at nb hy hz]
theorem look_self {a : List Str} (na : a.Nodup) {x : Str} (hx : x ∈ a) : look a a x = x := by
  obtain ⟨i, hi⟩ := List.mem_iff_getElem?.mp hx
  exact look_at na hi hi
theorem look_mem {a b : List Str} (na : a.Nodup) (hb : b.length = a.length) {x : Str} (hx : x ∈ a) : look a b x ∈ b := by
  obtain ⟨i, hi⟩ := List.mem_iff_getElem?.mp hx
  obtain ⟨y, hy⟩ := get_len hb hi
  rw [look_at na hi hy]
  exact List.mem_of_getElem? hy
def renD (km : Str → Str) (d : Deal) (n x : Str) : Deal := (n, d.2.1.map (fun p => (look (d.2.1.map Prod.fst) (sgn x) p.1, km p.2)), d.2.2.map fun p => (p.1, look (d.2.1.map Prod.fst) (sgn x) p.2))
def kmap (b : Book) (ks : List Str) : Str → Str := look (b.1.map Prod.fst) ks
def rename (b : Book) (ks ds ls : List Str) : Book := (b.1.map (fun k => (kmap b ks k.1, k.2)), List.zipWith (fun d (q : Str × Str) => renD (kmap b ks) d q.1 q.2) b.2 (ds.zip ls))
theorem ren_get {b : Book} {ks ds ls : List Str} {i : Nat} {d : Deal} {n x : Str} (h1 : b.2[i]? = some d) (h2 : ds[i]? = some n) (h3 : ls[i]? = some x) : (rename b ks ds ls).2[i]? = some (renD (kmap b ks) d n x) := by
  show (List.zipWith _ b.2 (ds.zip ls))[i]? = _
  have h4 : (ds.zip ls)[i]? = some (n, x) := by
    rw [List.getElem?_zip_eq_some]
    exact ⟨h2, h3⟩
  rw [List.getElem?_zipWith, h1, h4]
theorem ren_len {b : Book} {ks ds ls : List Str} (h : NOk b ks ds ls) : (rename b ks ds ls).2.length = b.2.length := by
  show (List.zipWith _ b.2 (ds.zip ls)).length = _
  rw [List.length_zipWith, List.length_zip, h.dl, h.ll]
  omega
theorem ren_k {b : Book} {ks ds ls : List Str} (w : WB b) (h : NOk b ks ds ls) : (rename b ks ds ls).1.map Prod.fst = ks := by
  show (b.1.map _).map _ = ks
  rw [List.map_map]
  have e : (b.1.map Prod.fst).map (look (b.1.map Prod.fst) ks) = ks := look_map w.kd (by rw [h.kl, List.length_map])
  rw [List.map_map] at e
  exact e
theorem renD_l {km : Str → Str} {d : Deal} {n x : Str} (nd : (d.2.1.map Prod.fst).Nodup) (h : x.length = d.2.1.length) : (renD km d n x).2.1.map Prod.fst = sgn x := by
  show (d.2.1.map _).map _ = _
  rw [List.map_map]
  have e : (d.2.1.map Prod.fst).map (look (d.2.1.map Prod.fst) (sgn x)) = sgn x := look_map nd (by rw [sgn_len, h, List.length_map])
  rw [List.map_map] at e
  exact e
/-- all of a renamed book's dealings -/
theorem ren_ex {b : Book} {ks ds ls : List Str} (h : NOk b ks ds ls) {i : Nat} {e : Deal} (he : (rename b ks ds ls).2[i]? = some e) : ∃ d n x, b.2[i]? = some d ∧ ds[i]? = some n ∧ ls[i]? = some x ∧ e = renD (kmap b ks) d n x ∧ RowOk x d.2.1.length := by
  obtain ⟨d, hd⟩ := get_len (ren_len h).symm he
  obtain ⟨n, hn⟩ := get_len h.dl hd
  obtain ⟨x, hx⟩ := get_len h.ll hd
  rw [ren_get hd hn hx] at he
  exact ⟨d, n, x, hd, hn, hx, (Option.some.inj he).symm, h.lr i d x hd hx⟩
theorem ren_wf {b : Book} {ks ds ls : List Str} (w : WB b) (h : NOk b ks ds ls) : WB (rename b ks ds ls) where
  k1 := by show 1 ≤ (b.1.map _).length; rw [List.length_map]; exact w.k1
  k6 := by show (b.1.map _).length ≤ 6; rw [List.length_map]; exact w.k6
  kn := fun k hk => h.kn _ (by rw [← ren_k w h]; exact List.mem_map.mpr ⟨k, hk, rfl⟩)
  kd := by rw [ren_k w h]; exact h.kd
  d1 := by rw [ren_len h]; exact w.d1
  d8 := by rw [ren_len h]; exact w.d8
  dd := by
    have e : (rename b ks ds ls).2.map Prod.fst = ds := by
      apply List.ext_getElem?
      intro i
      rw [List.getElem?_map]
      cases q : (rename b ks ds ls).2[i]? with
      | none =>
        have h1 := List.getElem?_eq_none_iff.mp q
        rw [ren_len h] at h1
        have := h.dl
        rw [List.getElem?_eq_none (by omega)]
        rfl
      | some e =>
        obtain ⟨d, n, x, _, hn, _, rfl, _⟩ := ren_ex h q
        rw [hn]
        rfl
    rw [e]
    exact h.dd
  ds := fun e he => by
    obtain ⟨i, hi⟩ := List.mem_iff_getElem?.mp he
    obtain ⟨d, n, x, hd, hn, hx, rfl, r1, r2, r3⟩ := ren_ex h hi
    have wd := w.ds d (List.mem_of_getElem? hd)
    have el := renD_l (km := kmap b ks) (n := n) wd.nd r1
    have sl : (sgn x).length = (d.2.1.map Prod.fst).length := by rw [sgn_len, r1, List.length_map]
    refine ⟨h.dn n (List.mem_of_getElem? hn), ?_, ?_, fun p hp => ?_, ?_, ?_, ?_, fun p hp => ?_, fun l hl => ?_⟩
    · show 1 ≤ (d.2.1.map _).length; rw [List.length_map]; exact wd.l1
    · show (d.2.1.map _).length ≤ 4; rw [List.length_map]; exact wd.l4
    · refine ⟨sgn_let r2 _ (by rw [← el]; exact List.mem_map.mpr ⟨p, hp, rfl⟩), ?_⟩
      obtain ⟨q, hq, rfl⟩ := List.mem_map.mp hp
      rw [ren_k w h]
      exact look_mem w.kd (by rw [h.kl, List.length_map]) (wd.lt q hq).2
    · rw [el]; exact sgn_nd r3
    · show 1 ≤ (d.2.2.map _).length; rw [List.length_map]; exact wd.s1
    · show (d.2.2.map _).length ≤ 8; rw [List.length_map]; exact wd.s8
    · rw [el]
      obtain ⟨q, hq, rfl⟩ := List.mem_map.mp hp
      exact ⟨(wd.st q hq).1, look_mem wd.nd sl (wd.st q hq).2⟩
    · rw [el] at hl
      obtain ⟨j, hj⟩ := List.mem_iff_getElem?.mp hl
      obtain ⟨o, ho⟩ := get_len sl.symm hj
      obtain ⟨q, hq, eq⟩ := List.mem_map.mp (wd.us o (List.mem_of_getElem? ho))
      show l ∈ (d.2.2.map _).map _
      rw [List.map_map]
      exact List.mem_map.mpr ⟨q, hq, by
        show look _ _ q.2 = l
        rw [eq]
        exact look_at wd.nd ho hj⟩
theorem nok_ren {b : Book} {ks ds ls ks' ds' ls' : List Str} (h : NOk b ks ds ls) (h' : NOk b ks' ds' ls') : NOk (rename b ks ds ls) ks' ds' ls' where
  kl := by rw [h'.kl]; show _ = (b.1.map _).length; rw [List.length_map]
  kn := h'.kn
  kd := h'.kd
  dl := by rw [h'.dl, ren_len h]
  dn := h'.dn
  dd := h'.dd
  ll := by rw [h'.ll, ren_len h]
  lr := fun i e x he hx => by
    obtain ⟨d, n, y, hd, _, _, rfl, _⟩ := ren_ex h he
    show RowOk x (d.2.1.map _).length
    rw [List.length_map]
    exact h'.lr i d x hd hx
theorem ren_ren {b : Book} {ks ds ls ks' ds' ls' : List Str} (w : WB b) (h : NOk b ks ds ls) (h' : NOk b ks' ds' ls') : rename (rename b ks ds ls) ks' ds' ls' = rename b ks' ds' ls' := by
  have hk : ∀ x ∈ b.1.map Prod.fst, kmap (rename b ks ds ls) ks' (kmap b ks x) = kmap b ks' x := fun x hx => by
    unfold kmap
    rw [ren_k w h]
    exact look_look w.kd h.kd (by rw [h.kl, List.length_map]) (by rw [h'.kl, List.length_map]) hx
  apply Prod.ext
  · show (b.1.map _).map _ = b.1.map _
    rw [List.map_map]
    refine List.map_congr_left fun k hk' => ?_
    show (kmap (rename b ks ds ls) ks' (kmap b ks k.1), k.2) = (kmap b ks' k.1, k.2)
    rw [hk _ (List.mem_map.mpr ⟨k, hk', rfl⟩)]
  · have nk := nok_ren h h'
    apply List.ext_getElem?
    intro i
    cases q : b.2[i]? with
    | none =>
      have h1 := List.getElem?_eq_none_iff.mp q
      rw [List.getElem?_eq_none (by rw [ren_len nk, ren_len h]; exact h1), List.getElem?_eq_none (by rw [ren_len h']; exact h1)]
    | some d =>
      obtain ⟨n, hn⟩ := get_len h.dl q
      obtain ⟨x, hx⟩ := get_len h.ll q
      obtain ⟨n', hn'⟩ := get_len h'.dl q
      obtain ⟨x', hx'⟩ := get_len h'.ll q
      rw [ren_get (ren_get q hn hx) hn' hx', ren_get q hn' hx']
      have wd := w.ds d (List.mem_of_getElem? q)
      have r := h.lr i d x q hx
      have r' := h'.lr i d x' q hx'
      have el := renD_l (km := kmap b ks) (n := n) wd.nd r.1
      have hl : ∀ y ∈ d.2.1.map Prod.fst, look (sgn x) (sgn x') (look (d.2.1.map Prod.fst) (sgn x) y) = look (d.2.1.map Prod.fst) (sgn x') y := fun y hy =>
        look_look wd.nd (sgn_nd r.2.2) (by rw [sgn_len, r.1, List.length_map]) (by rw [sgn_len, r'.1, List.length_map]) hy
      refine congrArg some (Prod.ext rfl (Prod.ext ?_ ?_))
      · show ((renD (kmap b ks) d n x).2.1.map fun p => (look ((renD (kmap b ks) d n x).2.1.map Prod.fst) (sgn x') p.1, kmap (rename b ks ds ls) ks' p.2)) = d.2.1.map _
        rw [el]
        show (d.2.1.map _).map _ = _
        rw [List.map_map]
        refine List.map_congr_left fun p hp => ?_
        show (look (sgn x) (sgn x') (look (d.2.1.map Prod.fst) (sgn x) p.1), kmap (rename b ks ds ls) ks' (kmap b ks p.2)) = (look (d.2.1.map Prod.fst) (sgn x') p.1, kmap b ks' p.2)
        rw [hl _ (List.mem_map.mpr ⟨p, hp, rfl⟩), hk _ (wd.lt p hp).2]
      · show ((renD (kmap b ks) d n x).2.2.map fun p => (p.1, look ((renD (kmap b ks) d n x).2.1.map Prod.fst) (sgn x') p.2)) = d.2.2.map _
        rw [el]
        show (d.2.2.map _).map _ = _
        rw [List.map_map]
        refine List.map_congr_left fun p hp => ?_
        show (p.1, look (sgn x) (sgn x') (look (d.2.1.map Prod.fst) (sgn x) p.2)) = (p.1, look (d.2.1.map Prod.fst) (sgn x') p.2)
        rw [hl _ (wd.st p hp).2]
/-- a text of one's own letters -/
def ownL (d : Deal) : Str := Txt.join Str.empty (d.2.1.map Prod.fst)
theorem sgn_cat : ∀ {ls : List Str}, (∀ l ∈ ls, IsLet l) → sgn (Str.join Str.empty ls) = ls
  | [], _ => rfl
  | [x], h => by
    obtain ⟨c, rfl, _⟩ := h x (List.mem_cons_self ..)
    rfl
  | x :: y :: r, h => by
    obtain ⟨c, rfl, _⟩ := h x (List.mem_cons_self ..)
    have ih := sgn_cat (ls := y :: r) fun l hl => h l (List.mem_cons_of_mem _ hl)
    show sgn ((⟨#[c]⟩ : Str) ++ Str.empty ++ Str.join Str.empty (y :: r)) = _
    unfold sgn at ih ⊢
    rw [Str.cps_append, Str.cps_append, Array.toList_append, Array.toList_append, List.map_append, ih]
    rfl
theorem sgn_own {kn : List Str} {d : Deal} (w : WD kn d) : sgn (ownL d) = d.2.1.map Prod.fst := by
  unfold ownL
  rw [TL.join_eq]
  exact sgn_cat fun l hl => by
    obtain ⟨p, hp, rfl⟩ := List.mem_map.mp hl
    exact (w.lt p hp).1
theorem own_row {kn : List Str} {d : Deal} (w : WD kn d) : RowOk (ownL d) d.2.1.length := by
  have e := sgn_own w
  refine ⟨by rw [← sgn_len, e, List.length_map], fun c hc => ?_, ?_⟩
  · have h1 : (⟨#[c]⟩ : Str) ∈ d.2.1.map Prod.fst := by
      rw [← e]
      exact List.mem_map.mpr ⟨c, hc, rfl⟩
    obtain ⟨p, hp, ep⟩ := List.mem_map.mp h1
    obtain ⟨c', e', hc'⟩ := (w.lt p hp).1
    rw [ep] at e'
    have h3 := congrArg (fun s : Str => s.cps.toList) e'
    have h4 : c = c' := by simpa using h3
    rw [h4]
    exact hc'
  · have nd := w.nd
    rw [← e] at nd
    unfold sgn at nd
    exact List.Pairwise.of_map _ (fun a b h e => h (congrArg (fun c => (⟨#[c]⟩ : Str)) e)) nd
theorem own_ok {b : Book} (w : WB b) : NOk b (b.1.map Prod.fst) (b.2.map Prod.fst) (b.2.map ownL) where
  kl := by rw [List.length_map]
  kn := fun k hk => by
    obtain ⟨p, hp, rfl⟩ := List.mem_map.mp hk
    exact w.kn p hp
  kd := w.kd
  dl := by rw [List.length_map]
  dn := fun k hk => by
    obtain ⟨p, hp, rfl⟩ := List.mem_map.mp hk
    exact (w.ds p hp).name
  dd := w.dd
  ll := by rw [List.length_map]
  lr := fun i d x hd hx => by
    rw [List.getElem?_map, hd] at hx
    cases hx
    exact own_row (w.ds d (List.mem_of_getElem? hd))
theorem ren_own {b : Book} (w : WB b) : rename b (b.1.map Prod.fst) (b.2.map Prod.fst) (b.2.map ownL) = b := by
  have hk : ∀ x ∈ b.1.map Prod.fst, kmap b (b.1.map Prod.fst) x = x := fun x hx => look_self w.kd hx
  apply Prod.ext
  · show b.1.map _ = b.1
    refine (List.map_congr_left fun k hk' => ?_).trans (List.map_id b.1)
    show (kmap b (b.1.map Prod.fst) k.1, k.2) = k
    rw [hk _ (List.mem_map.mpr ⟨k, hk', rfl⟩)]
  · have nk := own_ok w
    apply List.ext_getElem?
    intro i
    cases q : b.2[i]? with
    | none =>
      have h1 := List.getElem?_eq_none_iff.mp q
      rw [List.getElem?_eq_none (by rw [ren_len nk]; exact h1)]
    | some d =>
      have wd := w.ds d (List.mem_of_getElem? q)
      rw [ren_get q (n := d.1) (x := ownL d) (by rw [List.getElem?_map, q]; rfl) (by rw [List.getElem?_map, q]; rfl)]
      refine congrArg some (Prod.ext rfl (Prod.ext ?_ ?_))
      · show (d.2.1.map fun p => (look (d.2.1.map Prod.fst) (sgn (ownL d)) p.1, kmap b (b.1.map Prod.fst) p.2)) = d.2.1
        rw [sgn_own wd]
        refine (List.map_congr_left fun p hp => ?_).trans (List.map_id d.2.1)
        rw [look_self wd.nd (List.mem_map.mpr ⟨p, hp, rfl⟩), hk _ (wd.lt p hp).2]
        rfl
      · show (d.2.2.map fun p => (p.1, look (d.2.1.map Prod.fst) (sgn (ownL d)) p.2)) = d.2.2
        rw [sgn_own wd]
        refine (List.map_congr_left fun p hp => ?_).trans (List.map_id d.2.2)
        rw [look_self wd.nd (wd.st p hp).2]
        rfl

/-! ### parts -/
def dD0 : Deal := (Str.empty, [], [])
def pick (b : Book) (o : List Nat) : Book := (b.1, o.map fun i => b.2.getD i dD0)
/-- an order of n things -/
structure Ord (o : List Nat) (n : Nat) : Prop where
  len : o.length = n
  lt : ∀ i ∈ o, i < n
  nd : o.Nodup
theorem pick_get {b : Book} {o : List Nat} {n : Nat} (hn : n = b.2.length) (h : Ord o n) {j : Nat} {e : Deal} (he : (pick b o).2[j]? = some e) : ∃ i, o[j]? = some i ∧ b.2[i]? = some e := by
  have he : (o.map _)[j]? = some e := he
  rw [List.getElem?_map] at he
  obtain ⟨i, hi, rfl⟩ := Option.map_eq_some_iff.mp he
  have hl : i < b.2.length := hn ▸ h.lt i (List.mem_of_getElem? hi)
  refine ⟨i, hi, ?_⟩
  rw [List.getD_eq_getElem?_getD, List.getElem?_eq_getElem hl]
  rfl
theorem pick_at {b : Book} {o : List Nat} {j i : Nat} {e : Deal} (hj : o[j]? = some i) (he : b.2[i]? = some e) : (pick b o).2[j]? = some e := by
  show (o.map _)[j]? = _
  rw [List.getElem?_map, hj]
  show some (b.2.getD i dD0) = some e
  rw [List.getD_eq_getElem?_getD, he]
  rfl
theorem pick_len (b : Book) (o : List Nat) : (pick b o).2.length = o.length := List.length_map ..
theorem nd_at {α : Type} {l : List α} (h : l.Nodup) {i j : Nat} {a : α} (h1 : l[i]? = some a) (h2 : l[j]? = some a) : i = j := by
  obtain ⟨a1, e1⟩ := List.getElem?_eq_some_iff.mp h1
  obtain ⟨a2, e2⟩ := List.getElem?_eq_some_iff.mp h2
  exact (List.getElem_inj h).mp (e1.trans e2.symm)
theorem nd_of_at {α : Type} {l : List α} (h : ∀ (i j : Nat) (a : α), l[i]? = some a → l[j]? = some a → i = j) : l.Nodup := by
  refine List.pairwise_iff_getElem.mpr fun i j hi hj hij e => ?_
  have := h i j l[i] (List.getElem?_eq_getElem hi) (by rw [e]; exact List.getElem?_eq_getElem hj)
  omega
theorem nd_perm {α : Type} {l : List α} (h : l.Nodup) {o : List Nat} (ho : o.Nodup) {m : List α} (hm : ∀ (j : Nat) a, m[j]? = some a → ∃ i, o[j]? = some i ∧ l[i]? = some a) : m.Nodup := nd_of_at fun j k a h1 h2 => by
  obtain ⟨i, hi, e1⟩ := hm j a h1
  obtain ⟨i', hi', e2⟩ := hm k a h2
  have e := nd_at h e1 e2
  subst e
  exact nd_at ho hi hi'
theorem pick_wf {b : Book} {o : List Nat} (w : WB b) (h : Ord o b.2.length) : WB (pick b o) where
  k1 := w.k1
  k6 := w.k6
  kn := w.kn
  kd := w.kd
  d1 := by rw [pick_len, h.len]; exact w.d1
  d8 := by rw [pick_len, h.len]; exact w.d8
  ds := fun e he => by
    obtain ⟨j, hj⟩ := List.mem_iff_getElem?.mp he
    obtain ⟨i, _, hi⟩ := pick_get rfl h hj
    exact w.ds e (List.mem_of_getElem? hi)
  dd := nd_perm w.dd h.nd fun j a ha => by
    rw [List.getElem?_map] at ha
    obtain ⟨e, he, rfl⟩ := Option.map_eq_some_iff.mp ha
    obtain ⟨i, h1, h2⟩ := pick_get rfl h he
    exact ⟨i, h1, by rw [List.getElem?_map, h2]; rfl⟩
def at_ (l : List Str) (o : List Nat) : List Str := o.map fun i => l.getD i Str.empty
theorem at_get {l : List Str} {o : List Nat} {n : Nat} (hn : n = l.length) (h : Ord o n) {j : Nat} {e : Str} (he : (at_ l o)[j]? = some e) : ∃ i, o[j]? = some i ∧ l[i]? = some e := by
  have he : (o.map _)[j]? = some e := he
  rw [List.getElem?_map] at he
  obtain ⟨i, hi, rfl⟩ := Option.map_eq_some_iff.mp he
  have hl : i < l.length := hn ▸ h.lt i (List.mem_of_getElem? hi)
  refine ⟨i, hi, ?_⟩
  rw [List.getD_eq_getElem?_getD, List.getElem?_eq_getElem hl]
  rfl
theorem at_at {l : List Str} {o : List Nat} {j i : Nat} {e : Str} (hj : o[j]? = some i) (he : l[i]? = some e) : (at_ l o)[j]? = some e := by
  show (o.map _)[j]? = _
  rw [List.getElem?_map, hj]
  show some (l.getD i Str.empty) = some e
  rw [List.getD_eq_getElem?_getD, he]
  rfl
theorem nok_pick {b : Book} {ks ds ls : List Str} {o : List Nat} (h : NOk b ks ds ls) (ho : Ord o b.2.length) : NOk (pick b o) ks (at_ ds o) (at_ ls o) where
  kl := h.kl
  kn := h.kn
  kd := h.kd
  dl := by rw [pick_len]; exact List.length_map ..
  dn := fun k hk => by
    obtain ⟨j, hj⟩ := List.mem_iff_getElem?.mp hk
    obtain ⟨i, _, hi⟩ := at_get h.dl.symm ho hj
    exact h.dn k (List.mem_of_getElem? hi)
  dd := nd_perm h.dd ho.nd fun j a ha => at_get h.dl.symm ho ha
  ll := by rw [pick_len]; exact List.length_map ..
  lr := fun j d x hd hx => by
    obtain ⟨i, h1, h2⟩ := pick_get rfl ho hd
    obtain ⟨i', h3, h4⟩ := at_get h.ll.symm ho hx
    rw [h1] at h3
    cases h3
    exact h.lr i d x h2 h4
theorem ren_pick {b : Book} {ks ds ls : List Str} {o : List Nat} (h : NOk b ks ds ls) (ho : Ord o b.2.length) : rename (pick b o) ks (at_ ds o) (at_ ls o) = pick (rename b ks ds ls) o := by
  refine Prod.ext rfl ?_
  have nk := nok_pick h ho
  apply List.ext_getElem?
  intro j
  cases q : o[j]? with
  | none =>
    have h1 := List.getElem?_eq_none_iff.mp q
    rw [List.getElem?_eq_none (by rw [ren_len nk, pick_len]; exact h1), List.getElem?_eq_none (by rw [pick_len]; exact h1)]
  | some i =>
    have hi : i < b.2.length := ho.lt i (List.mem_of_getElem? q)
    have hd := List.getElem?_eq_getElem hi
    obtain ⟨n, hn⟩ := get_len h.dl hd
    obtain ⟨x, hx⟩ := get_len h.ll hd
    rw [pick_at q (ren_get hd hn hx), ren_get (pick_at q hd) (at_at q hn) (at_at q hx)]
    rfl
/-- the place of each in the order -/
def inv (o : List Nat) (n : Nat) : List Nat := (List.range n).map fun i => o.idxOf i
theorem nd_le : ∀ (n : Nat) (l : List Nat), l.Nodup → (∀ x ∈ l, x < n) → l.length ≤ n
  | 0, [], _, _ => Nat.le_refl _
  | 0, x :: l, _, h => absurd (h x (List.mem_cons_self ..)) (Nat.not_lt_zero _)
  | n + 1, l, nd, h => by
    have ih := nd_le n (l.erase n) (nd.erase n) fun x hx => by
      have h1 := h x (List.mem_of_mem_erase hx)
      have h2 : x ≠ n := fun e => by
        subst e
        exact nd.not_mem_erase hx
      omega
    by_cases hm : n ∈ l
    · have := List.length_erase_of_mem hm
      omega
    · rw [List.erase_of_not_mem hm] at ih
      omega
theorem ord_full {o : List Nat} {n : Nat} (h : Ord o n) : ∀ i, i < n → i ∈ o := by
  intro i hi
  refine Classical.byContradiction fun hc => ?_
  have h1 : (i :: o).Nodup := List.nodup_cons.mpr ⟨hc, h.nd⟩
  have h2 := nd_le n (i :: o) h1 fun x hx => by
    rcases List.mem_cons.mp hx with e | e
    · rw [e]; exact hi
    · exact h.lt x e
  rw [List.length_cons, h.len] at h2
  omega
theorem inv_get {o : List Nat} {n i : Nat} (h : Ord o n) (hi : i < n) : ∃ j, (inv o n)[i]? = some j ∧ o[j]? = some i ∧ j < n := by
  have hm := ord_full h i hi
  refine ⟨o.idxOf i, ?_, ?_, ?_⟩
  · unfold inv
    rw [List.getElem?_map, List.getElem?_range hi]
    rfl
  · rw [List.getElem?_eq_getElem (List.idxOf_lt_length_of_mem hm), List.getElem_idxOf]
  · have := List.idxOf_lt_length_of_mem hm
    rw [h.len] at this
    exact this
theorem inv_ord {o : List Nat} {n : Nat} (h : Ord o n) : Ord (inv o n) n where
  len := by unfold inv; rw [List.length_map, List.length_range]
  lt := fun j hj => by
    obtain ⟨i, hi⟩ := List.mem_iff_getElem?.mp hj
    have hl := (List.getElem?_eq_some_iff.mp hi).1
    have e : (inv o n).length = n := by unfold inv; rw [List.length_map, List.length_range]
    obtain ⟨j', h1, _, h3⟩ := inv_get h (show i < n by omega)
    rw [hi] at h1
    cases h1
    exact h3
  nd := nd_of_at fun i k a h1 h2 => by
    have e : (inv o n).length = n := by unfold inv; rw [List.length_map, List.length_range]
    have l1 := (List.getElem?_eq_some_iff.mp h1).1
    have l2 := (List.getElem?_eq_some_iff.mp h2).1
    obtain ⟨j, a1, a2, _⟩ := inv_get h (show i < n by omega)
    obtain ⟨j', b1, b2, _⟩ := inv_get h (show k < n by omega)
    rw [h1] at a1
    rw [h2] at b1
    cases a1; cases b1
    rw [a2] at b2
    exact Option.some.inj b2
theorem pick_inv {b : Book} {o : List Nat} (h : Ord o b.2.length) : pick (pick b o) (inv o b.2.length) = b := by
  refine Prod.ext rfl ?_
  apply List.ext_getElem?
  intro i
  by_cases hi : i < b.2.length
  · obtain ⟨j, h1, h2, _⟩ := inv_get h hi
    have hd := List.getElem?_eq_getElem hi
    rw [pick_at h1 (pick_at h2 hd), hd]
  · rw [List.getElem?_eq_none (by rw [pick_len, (inv_ord h).len]; omega), List.getElem?_eq_none (by omega)]
end SN

/-! SN: walks, comprehensions, statements, by the data in the slots. -/
namespace SN
open PySem L2

inductive F2 {α β : Type} (R : α → β → Prop) : List α → List β → Prop
  | nil : F2 R [] []
  | cons {a : α} {b : β} {l : List α} {m : List β} (h : R a b) (t : F2 R l m) : F2 R (a :: l) (b :: m)
section
variable {α β : Type} {R : α → β → Prop}
theorem F2.len : ∀ {l : List α} {m : List β}, F2 R l m → l.length = m.length
  | _, _, .nil => rfl
  | _, _, .cons _ t => congrArg (· + 1) t.len
theorem F2.app : ∀ {l l' : List α} {m m' : List β}, F2 R l m → F2 R l' m' → F2 R (l ++ l') (m ++ m')
  | _, _, _, _, .nil, h => h
  | _, _, _, _, .cons a t, h => .cons a (t.app h)
theorem F2.one {a : α} {b : β} (h : R a b) : F2 R [a] [b] := .cons h .nil
theorem F2.map {f : α → β} : ∀ {l : List α} {m : List β}, F2 (fun a b => b = f a) l m → m = l.map f
  | _, _, .nil => rfl
  | _, _, .cons h t => by rw [h, t.map]; rfl
theorem F2.get : ∀ {l : List α} {m : List β} {i : Nat} {a : α}, F2 R l m → l[i]? = some a → ∃ b, m[i]? = some b ∧ R a b
  | _, _, _, _, .nil, e => by simp at e
  | _, _, 0, _, .cons h t, e => by
    have e1 := Option.some.inj e
    subst e1
    exact ⟨_, rfl, h⟩
  | _, _, i + 1, _, .cons h t, e => F2.get (i := i) t e
theorem F2.mem : ∀ {l : List α} {m : List β} {b : β}, F2 R l m → b ∈ m → ∃ a ∈ l, R a b
  | _, _, _, .nil, h => by cases h
  | _, _, b, .cons (a := a) h t, hb => by
    rcases List.mem_cons.mp hb with e | e
    · subst e; exact ⟨a, List.mem_cons_self .., h⟩
    · obtain ⟨x, hx, r⟩ := t.mem e
      exact ⟨x, List.mem_cons_of_mem _ hx, r⟩
end

/-! ### what is walked -/
def YD (K : PySem.W.Frag) (G1 : Hp) (ds : List PyData) : Nat → Hp → V → Hp → Prop := fun i H x H' => ∀ d, ds[i]? = some d → ∀ G, Same G1 G → Same G H → ∃ G', Fr M0 G H G' H' ∧ Dq K G' x d
def Wk (C : Cn) (wi : TI) (Γ : List Sl) (P : List PyData → Prop) : Prop := ∀ (σ : St) (G H : Hp), Fm C σ Γ G H → ∀ R : It → Hp → Prop,
  (∀ (ds : List PyData) (J : It) (G1 H1 : Hp), P ds → Fr C.M G H G1 H1 → C.I H1 → Walk J ds.length (Same G1) (YD C.K G1 ds) → R J H1) → wi σ H R
abbrev WkD (C : Cn) (wi : TI) (Γ : List Sl) (ds : List PyData) : Prop := Wk C wi Γ fun z => z = ds
section
variable {C : Cn} {Γ : List Sl} {tl te : TE} {ta : TA} {ds : List PyData}
theorem wk_listP {P : List PyData → Prop} (h : Ev C tl Γ fun z => ∃ ds, z = .list ds ∧ P ds) : Wk C (iList C.K tl) Γ P := fun σ G H E R q => h σ G H E _ fun v d G1 H1 p f i hv => by
  obtain ⟨ds, rfl, p⟩ := p
  obtain ⟨a, xs, rfl, ha, hx⟩ := dp_list hv
  refine ⟨a, rfl, ⟨xs, .of (f.gh _ _ ha)⟩, q ds _ G1 H1 p f i ?_⟩
  rw [← dpa_len hx]
  exact walk_list.mono (fun H' s => .of (s _ _ ha)) fun j H' x H'' _ _ y d hd G' s1 s2 => by
    obtain ⟨rfl, ex⟩ := y
    obtain ⟨d', hd', hq⟩ := dpa_get' hx ex
    rw [hd] at hd'
    cases hd'
    exact ⟨G', Fr.refl s2, Dq.mono s1 d x hq⟩
theorem wk_list (h : EvD C tl Γ (.list ds)) : WkD C (iList C.K tl) Γ ds := wk_listP (h.imp fun d e => ⟨ds, e, rfl⟩)
theorem wk_str {x : Str} (h : EvD C te Γ (.str x)) : WkD C (iStr te) Γ ((sgn x).map .str) := fun σ G H E R q => h σ G H E _ fun v d G1 H1 p f i hv => by
  subst p
  refine ⟨x, dp_str hv, q _ _ G1 H1 rfl f i ?_⟩
  rw [List.length_map, sgn_len, show x.length = x.cps.size from rfl]
  exact walk_str.mono (fun _ _ => True.intro) fun j H' v H'' hj _ y d hd G' s1 s2 => by
    obtain ⟨rfl, c, hc, rfl⟩ := y
    refine ⟨G', Fr.refl s2, ?_⟩
    have e : ((sgn x).map PyData.str)[j]? = some (.str ⟨#[c]⟩) := by
      unfold sgn
      rw [List.getElem?_map, List.getElem?_map, Array.getElem?_toList, hc]
      rfl
    rw [hd] at e
    cases e
    exact .str _
theorem wk_rangeP {PA : List PyData → Prop} {P : List PyData → Prop} (h : EvA C ta Γ PA) (hp : ∀ ds, PA ds → ∃ n : Nat, ds = [.int n] ∧ n ≤ 100000 ∧ P ((List.range n).map fun (k : Nat) => .int (k : Int))) : Wk C (iRng1 ta) Γ P := fun σ G H E R q => h σ G H E _ fun vs ds G1 H1 p f i hv => by
  obtain ⟨n, rfl, hn, hP⟩ := hp ds p
  cases hv with
  | cons h1 t =>
    cases t
    rw [dp_int h1]
    refine ⟨(n : Int), rfl, by omega, by omega, ?_⟩
    rw [Int.toNat_natCast]
    refine q _ _ G1 H1 hP f i ?_
    rw [List.length_map, List.length_range]
    exact walk_range.mono (fun _ _ => True.intro) fun j H' v H'' hj _ y d hd G' s1 s2 => by
      obtain ⟨rfl, rfl⟩ := y
      refine ⟨G', Fr.refl s2, ?_⟩
      rw [List.getElem?_map, List.getElem?_range hj] at hd
      cases hd
      show Dq C.K G' (.int (0 + (j : Int))) (.int (j : Int))
      rw [Int.zero_add]
      exact .int _
theorem wk_range {n : Nat} (h : EvAD C ta Γ [.int n]) (hn : n ≤ 100000) : WkD C (iRng1 ta) Γ ((List.range n).map fun (k : Nat) => .int (k : Int)) := wk_rangeP h fun _ e => ⟨n, e, hn, rfl⟩
/-- a new pair at each turn -/
theorem yd_pair {K : PySem.W.Frag} {G H H' G1 : Hp} {T : Addr} {x y : V} {d e : PyData} (hT : H T = none) (eH : H' = upd H T (.tup [x, y])) (s1 : Same G1 G) (s2 : Same G H) (hx : Dq K G1 x d) (hy : Dq K G1 y e) :
    ∃ G', Fr M0 G H G' H' ∧ Dq K G' (.ref T) (.tuple [d, e]) := by
  subst eH
  have f : Fr M0 G H (upd G T (.tup [x, y])) (upd H T (.tup [x, y])) := Fr.new s2 hT
  exact ⟨_, f, .tup upd_same (.cons (Dq.mono (s1.trans f.gg) d x hx) (.cons (Dq.mono (s1.trans f.gg) e y hy) .nil))⟩
def numbered (ds : List PyData) : List PyData := (List.range ds.length).zipWith (fun (i : Nat) d => .tuple [.int (i : Int), d]) ds
theorem numbered_len (ds : List PyData) : (numbered ds).length = ds.length := by
  unfold numbered
  rw [List.length_zipWith, List.length_range]
  omega
theorem numbered_get {ds : List PyData} {i : Nat} {d : PyData} (h : ds[i]? = some d) : (numbered ds)[i]? = some (.tuple [.int i, d]) := by
  unfold numbered
  rw [List.getElem?_zipWith, h, List.getElem?_range (List.getElem?_eq_some_iff.mp h).1]
theorem wk_enum (h : EvAD C ta Γ [.list ds]) : WkD C (iEnum C.K ta) Γ (numbered ds) := fun σ G H E R q => h σ G H E _ fun vs zs G1 H1 p f i hv => by
  subst p
  cases hv with
  | cons h1 t =>
    cases t
    obtain ⟨a, xs, rfl, ha, hx⟩ := dp_list h1
    refine ⟨a, xs, rfl, .of (f.gh _ _ ha), q _ _ G1 H1 rfl f i ?_⟩
    rw [numbered_len, ← dpa_len hx]
    exact walk_enum.mono (fun H' s => .of (s _ _ ha)) fun j H' x H'' hj _ y d hd G' s1 s2 => by
      obtain ⟨T, u, w, rfl, hT, eH, hu, hw⟩ := y
      obtain ⟨d', hd', hq⟩ := dpa_get' hx hw
      rw [numbered_get hd'] at hd
      cases hd
      cases hu
      exact yd_pair hT eH s1 s2 (.int _) hq
def pairs (ds es : List PyData) : List PyData := ds.zipWith (fun d e => .tuple [d, e]) es
theorem pairs_get {ds es : List PyData} {i : Nat} {d e : PyData} (h : ds[i]? = some d) (h2 : es[i]? = some e) : (pairs ds es)[i]? = some (.tuple [d, e]) := by
  unfold pairs
  rw [List.getElem?_zipWith, h, h2]
theorem wk_zip {es : List PyData} (h : EvAD C ta Γ [.list ds, .list es]) : WkD C (iZip C.K ta) Γ (pairs ds es) := fun σ G H E R q => h σ G H E _ fun vs zs G1 H1 p f i hv => by
  subst p
  cases hv with
  | cons h1 t =>
    cases t with
    | cons h2 t =>
      cases t
      obtain ⟨a, xs, rfl, ha, hx⟩ := dp_list h1
      obtain ⟨b, ys, rfl, hb, hy⟩ := dp_list h2
      refine ⟨a, b, xs, ys, rfl, .of (f.gh _ _ ha), .of (f.gh _ _ hb), q _ _ G1 H1 rfl f i ?_⟩
      refine (walk_zip (xs := xs) (ys := ys) ?_).mono (fun H' s => ⟨.of (s _ _ ha), .of (s _ _ hb)⟩) fun j H' x H'' hj _ y d hd G' s1 s2 => ?_
      · unfold pairs
        rw [List.length_zipWith, dpa_len hx, dpa_len hy]
      · obtain ⟨T, u, w, rfl, hT, eH, hu, hw⟩ := y
        obtain ⟨d1, hd1, hq1⟩ := dpa_get' hx hu
        obtain ⟨d2, hd2, hq2⟩ := dpa_get' hy hw
        rw [pairs_get hd1 hd2] at hd
        cases hd
        exact yd_pair hT eH s1 s2 hq1 hq2

/-! ### targets -/
def Tg (C : Cn) (g : TG) (vs : List Nat) (Γ : List Sl) (d : PyData) (Γ2 : List Sl) : Prop := ∀ (σ : St) (G H : Hp) (v : V), Fm C σ Γ G H → Dq C.K G v d → ∀ Q : St → Hp → Prop, (∀ σ2, Fm C σ2 Γ2 G H → wipe σ2 vs = wipe σ vs → Q σ2 H) → g v σ H Q
variable {vs : List Nat} {d : PyData}
theorem tg_name {j : Nat} (hj : j ∈ vs) : Tg C (gName j) vs Γ d (Γ.set j (.dat d)) := fun σ G H v E hv Q q => q _ (E.setD hv) (wipe_mem hj)
theorem tg_tup2 {a b : Nat} {d e : PyData} (ha : a ∈ vs) (hb : b ∈ vs) : Tg C (gTup C.K 2 (gCons (gName a) (gCons (gName b) gNil))) vs Γ (.tuple [d, e]) ((Γ.set a (.dat d)).set b (.dat e)) := fun σ G H v E hv Q q => by
  obtain ⟨p, xs, rfl, hp, hx⟩ := dp_tuple hv
  cases hx with
  | cons h1 t =>
    cases t with
    | cons h2 t =>
      cases t
      exact ⟨p, _, rfl, .of (E.fr.gh _ _ hp), rfl, _, _, rfl, _, _, rfl, rfl, q _ ((E.setD h1).setD h2) (by rw [wipe_mem hb, wipe_mem ha])⟩
theorem tg_tup3 {a b c : Nat} {d e f : PyData} (ha : a ∈ vs) (hb : b ∈ vs) (hc : c ∈ vs) : Tg C (gTup C.K 3 (gCons (gName a) (gCons (gName b) (gCons (gName c) gNil)))) vs Γ (.tuple [d, e, f]) (((Γ.set a (.dat d)).set b (.dat e)).set c (.dat f)) := fun σ G H v E hv Q q => by
  obtain ⟨p, xs, rfl, hp, hx⟩ := dp_tuple hv
  cases hx with
  | cons h1 t =>
    cases t with
    | cons h2 t =>
      cases t with
      | cons h3 t =>
        cases t
        exact ⟨p, _, rfl, .of (E.fr.gh _ _ hp), rfl, _, _, rfl, _, _, rfl, _, _, rfl, rfl, q _ (((E.setD h1).setD h2).setD h3) (by rw [wipe_mem hc, wipe_mem hb, wipe_mem ha])⟩

/-! ### comprehensions -/
theorem ev_lcP {wi : TI} {g : TG} {tt : TT} {P : List PyData → Prop} {p : List PyData → Nat → Bool} {R : List PyData → Nat → PyData → Prop} (hw : Wk C wi Γ P) (hl : ∀ ds, P ds → ds.length ≤ 1000)
    (hb : ∀ ds, P ds → ∀ (i : Nat) d, ds[i]? = some d → ∃ Γ2, Tg C g vs (wipeS Γ vs) d Γ2 ∧ EvT C tt Γ2 (p ds i) ∧ (p ds i = true → Ev C te Γ2 (R ds i))) :
    Ev C (tLc wi g tt te vs) Γ fun z => ∃ ds zs, z = .list zs ∧ P ds ∧ F2 (R ds) ((List.range ds.length).filter (p ds)) zs := fun σ G H E Q q => hw σ G H E _ fun ds J G1 H1 pd f1 i1 W D hD => by
  refine lc_it W (fun i H' => ∃ G' acc zs, Fr C.M G1 H1 G' H' ∧ C.I H' ∧ G' D = none ∧ H' D = some (.lst acc) ∧ DqAll C.K G' acc zs ∧ F2 (R ds) ((List.range i).filter (p ds)) zs)
    ⟨G1, [], [], (Fr.newU f1.gh hD).of0, C.hI _ _ (fun a o m e => same_new hD a o e) i1, none_of f1.gh hD, upd_same, .nil, .nil⟩ (fun i H' _ ⟨G', _, _, f, _⟩ => f.gg.trans f.gh) ?_ ?_
  · rintro i x H' H'' hi ⟨G', acc, zs, f, iv, gD, hH, ha, hF⟩ hy
    have hd : ds[i]? = some ds[i] := List.getElem?_eq_getElem hi
    obtain ⟨G2, f2, hx⟩ := hy _ hd G' f.gg f.gh
    have i2 : C.I H'' := C.hI _ _ (fun a o _ e => f2.hh a o (fun z => z) e) iv
    have fT : Fr C.M G H G2 H'' := (f1.transM f).trans0 f2
    have nD : ¬ C.M D := (E.stepM f1 i1).nom hD
    have ek : (List.range (i + 1)).filter (p ds) = (List.range i).filter (p ds) ++ (if p ds i = true then [i] else []) := by
      rw [List.range_succ, List.filter_append]
      by_cases hp : p ds i = true
      · rw [if_pos hp, List.filter_cons, if_pos hp]
        rfl
      · rw [if_neg hp, List.filter_cons, if_neg hp]
        rfl
    obtain ⟨Γ2, hg, ht, he⟩ := hb ds pd i _ hd
    refine hg _ G2 H'' x ((E.stepM fT i2).wipe vs) hx _ fun σ2 E2 hw2 => ⟨?_, ?_⟩
    · rw [hw2]
      exact wipe_wipe vs vs fun w h => h
    · refine ht σ2 G2 H'' E2 _ fun G3 H3 f3 i3 => ?_
      have D2 : H'' D = some (.lst acc) := f2.hh D _ (fun z => z) hH
      have D3 : H3 D = some (.lst acc) := f3.hh D _ nD D2
      have g2D : G2 D = none := by
        cases q2 : G2 D with
        | none => rfl
        | some u =>
          obtain ⟨z, ez⟩ := f2.fr D u _ q2 hH
          rw [gD] at ez
          cases ez
      have g3D : G3 D = none := by
        cases q2 : G3 D with
        | none => rfl
        | some u =>
          obtain ⟨z, ez⟩ := f3.fr D u _ q2 D2
          rw [g2D] at ez
          cases ez
      have fA : Fr C.M G1 H1 G3 H3 := (f.trans0 f2).transM f3
      by_cases hp : p ds i = true
      · rw [hp]
        refine (if_pos rfl).mpr ?_
        refine he hp σ2 G3 H3 (E2.stepM f3 i3) _ fun y z G4 H4 rz f4 i4 hy4 => ?_
        have D4 : H4 D = some (.lst acc) := f4.hh D _ nD D3
        have g4D : G4 D = none := by
          cases q2 : G4 D with
          | none => rfl
          | some u =>
            obtain ⟨z, ez⟩ := f4.fr D u _ q2 D3
            rw [g3D] at ez
            cases ez
        have hlen : acc.length ≤ 1000 := by
          rw [dpa_len ha, ← hF.len]
          have h1 := List.length_filter_le (p ds) (List.range i)
          rw [List.length_range] at h1
          have h3 := hl ds pd
          omega
        refine ⟨acc, D4, small1000 hlen, G4, acc ++ [y], zs ++ [z], (fA.transM f4).put D4 g4D (.inr hD), ?_, g4D, upd_same, ?_, ?_⟩
        · exact C.hI _ _ (fun a o m e => by
            have na : a ≠ D := fun q => nD (q ▸ m)
            rw [upd_ne na]
            exact e) i4
        · exact dpa_app (Dq.monoAll ((f2.gg.trans f3.gg).trans f4.gg) _ _ ha) (dpa_one hy4)
        · rw [ek, if_pos hp]
          exact hF.app (F2.one rz)
      · have hp' : p ds i = false := by simpa using hp
        rw [hp']
        refine (if_neg Bool.false_ne_true).mpr ?_
        refine ⟨G3, acc, zs, fA, i3, g3D, D3, Dq.monoAll (f2.gg.trans f3.gg) _ _ ha, ?_⟩
        rw [ek, if_neg hp, List.append_nil]
        exact hF
  · rintro H' ⟨G', acc, zs, f, iv, gD, hH, ha, hF⟩
    have f2 : Fr C.M G1 H1 (upd G' D (.lst acc)) H' := f.keep hH gD hD
    exact q (.ref D) (.list zs) _ H' ⟨ds, zs, rfl, pd, hF⟩ (f1.transM f2) iv (.lst upd_same (Dq.monoAll (same_new gD) _ _ ha))
theorem et_yes : EvT C tYes Γ true := fun σ G H E Q q => q G H (Fr.refl E.fr.gh) E.inv
theorem range_all (n : Nat) : (List.range n).filter (fun _ => true) = List.range n := List.filter_eq_self.mpr fun _ _ => rfl
theorem F2.range {α : Type} {R : Nat → α → Prop} {n : Nat} {zs : List α} (h : F2 R (List.range n) zs) : zs.length = n ∧ ∀ (i : Nat) z, zs[i]? = some z → R i z := by
  have hl := h.len
  rw [List.length_range] at hl
  refine ⟨hl.symm, fun i z e => ?_⟩
  have hi : i < n := by
    have := (List.getElem?_eq_some_iff.mp e).1
    omega
  obtain ⟨b, hb, r⟩ := h.get (List.getElem?_range hi)
  rw [e] at hb
  cases hb
  exact r
theorem f2_of {α β : Type} {R : α → β → Prop} : ∀ (xs : List α) (zs : List β), zs.length = xs.length → (∀ (i : Nat) z, zs[i]? = some z → ∃ x, xs[i]? = some x ∧ R x z) → F2 R xs zs
  | [], [], _, _ => .nil
  | [], _ :: _, h, _ => by simp at h
  | _ :: _, [], h, _ => by simp at h
  | x :: xs, y :: zs, h1, h2 => by
    obtain ⟨x', e, r⟩ := h2 0 y rfl
    cases e
    exact .cons r (f2_of xs zs (by simpa using h1) fun i z e => h2 (i + 1) z e)
/-- [.. for x in ..], each by what it stands for, things that may come out one way or another -/
theorem ev_lcR {α : Type} {wi : TI} {g : TG} {xs : List α} {c : α → PyData} {R : α → PyData → Prop} (hw : WkD C wi Γ (xs.map c)) (hl : xs.length ≤ 1000) (hb : ∀ x ∈ xs, ∃ Γ2, Tg C g vs (wipeS Γ vs) (c x) Γ2 ∧ Ev C te Γ2 (R x)) :
    Ev C (tLc wi g tYes te vs) Γ fun z => ∃ zs, z = .list zs ∧ F2 R xs zs := by
  refine (ev_lcP (p := fun _ _ => true) (R := fun _ i z => ∃ x, xs[i]? = some x ∧ R x z) hw (fun _ e => by rw [e, List.length_map]; exact hl) (fun ds e i d hd => ?_)).imp fun z ⟨ds, zs, ez, ed, hF⟩ => ⟨zs, ez, ?_⟩
  · subst e
    rw [List.getElem?_map] at hd
    obtain ⟨x, hx, rfl⟩ := Option.map_eq_some_iff.mp hd
    obtain ⟨Γ2, h1, h2⟩ := hb x (List.mem_of_getElem? hx)
    exact ⟨Γ2, h1, et_yes, fun _ => h2.imp fun z r => ⟨x, hx, r⟩⟩
  · subst ed
    rw [range_all] at hF
    obtain ⟨h1, h2⟩ := hF.range
    rw [List.length_map] at h1
    exact f2_of xs zs h1 h2
/-- [f(x) for x in ..] -/
theorem ev_lc {α : Type} {wi : TI} {g : TG} {xs : List α} {c : α → PyData} (f : α → PyData) (hw : WkD C wi Γ (xs.map c)) (hl : xs.length ≤ 1000) (hb : ∀ x ∈ xs, ∃ Γ2, Tg C g vs (wipeS Γ vs) (c x) Γ2 ∧ EvD C te Γ2 (f x)) :
    EvD C (tLc wi g tYes te vs) Γ (.list (xs.map f)) := (ev_lcR (R := fun x z => z = f x) hw hl hb).imp fun z ⟨zs, ez, hF⟩ => by rw [ez, F2.map hF]

/-! ### statements -/
def Nx (C : Cn) (Γ : List Sl) (k : St → Hp → Prop) : Prop := ∀ (σ : St) (G H : Hp), Fm C σ Γ G H → k σ H
variable {nx bk ct : St → Hp → Prop} {rt : VK} {tu tw : TS} {P : PyData → Prop} {tt : TT}
theorem nx_seq (h : Nx C Γ (tu ⟨tw ⟨nx, rt, bk, ct⟩, rt, bk, ct⟩)) : Nx C Γ (tSeq tu tw ⟨nx, rt, bk, ct⟩) := h
theorem nx_asg {i : Nat} (h : Ev C te Γ P) (k : ∀ d, P d → Nx C (Γ.set i (.dat d)) nx) : Nx C Γ (tAsg te (gName i) ⟨nx, rt, bk, ct⟩) := fun σ G H E => h σ G H E _ fun v d G2 H2 p f iv hv => k d p _ G2 H2 ((E.stepM f iv).setD hv)
theorem nx_asgD {i : Nat} (h : EvD C te Γ d) (k : Nx C (Γ.set i (.dat d)) nx) : Nx C Γ (tAsg te (gName i) ⟨nx, rt, bk, ct⟩) := nx_asg h fun _ e => e ▸ k
/-- x = [] -/
theorem nx_own {i : Nat} (k : Nx C (Γ.set i (.own [])) nx) : Nx C Γ (tAsg (tLst tNil) (gName i) ⟨nx, rt, bk, ct⟩) := fun σ G H E => ⟨Nat.zero_le _, fun p hp => by
  have f : Fr M0 G H G (upd H p (.lst [])) := Fr.newU E.fr.gh hp
  exact k _ G _ ((E.step f).set ⟨p, [], rfl, E.h0 hp, none_of E.fr.gh hp, upd_same, .nil⟩)⟩
theorem nx_ret (h : Ev C te Γ P) (k : ∀ (σ : St) v d G H, P d → Fm C σ Γ G H → Dq C.K G v d → rt v H) : Nx C Γ (tRet te ⟨nx, rt, bk, ct⟩) := fun σ G H E => h σ G H E _ fun v d G2 H2 p f iv hv => k σ v d G2 H2 p (E.stepM f iv) hv
theorem nx_if {b : Bool} (h : EvT C tt Γ b) (h1 : b = true → Nx C Γ (tu ⟨nx, rt, bk, ct⟩)) (h2 : b = false → Nx C Γ (tw ⟨nx, rt, bk, ct⟩)) : Nx C Γ (tIfS tt tu tw ⟨nx, rt, bk, ct⟩) := fun σ G H E => h σ G H E _ fun G2 H2 f iv => by
  cases b with
  | true => exact (if_pos rfl).mpr (h1 rfl σ G2 H2 (E.stepM f iv))
  | false => exact (if_neg Bool.false_ne_true).mpr (h2 rfl σ G2 H2 (E.stepM f iv))
theorem nx_ifT (h : EvT C tt Γ true) (k : Nx C Γ (tu ⟨nx, rt, bk, ct⟩)) : Nx C Γ (tIfS tt tu tw ⟨nx, rt, bk, ct⟩) := nx_if h (fun _ => k) fun e => nomatch e
theorem nx_ifF (h : EvT C tt Γ false) (k : Nx C Γ (tw ⟨nx, rt, bk, ct⟩)) : Nx C Γ (tIfS tt tu tw ⟨nx, rt, bk, ct⟩) := nx_if h (fun e => nomatch e) fun _ => k
theorem nx_next (k : Nx C Γ nx) : Nx C Γ (tNext ⟨nx, rt, bk, ct⟩) := k
theorem nx_drop (h : Ev C te Γ P) (k : Nx C Γ nx) : Nx C Γ (tDrop te ⟨nx, rt, bk, ct⟩) := fun σ G H E => h σ G H E _ fun v d G2 H2 p f iv hv => k σ G2 H2 (E.stepM f iv)
/-- a, b, c = a tuple -/
theorem nx_unp3 {a b c : Nat} {d e f : PyData} (h : EvD C te Γ (.tuple [d, e, f])) (k : Nx C (((Γ.set a (.dat d)).set b (.dat e)).set c (.dat f)) nx) : Nx C Γ (tAsg te (gTup C.K 3 (gCons (gName a) (gCons (gName b) (gCons (gName c) gNil)))) ⟨nx, rt, bk, ct⟩) := fun σ G H E =>
  h σ G H E _ fun v z G2 H2 p f iv hv => by
    subst p
    exact tg_tup3 (vs := [a, b, c]) (by simp) (by simp) (by simp) σ G2 H2 v (E.stepM f iv) hv _ fun σ2 E2 _ => k σ2 G2 H2 E2

/-! ### own lists change -/
def isOwn : Sl → Bool
  | .own _ => true
  | .spc _ => true
  | _ => false
/-- no other slot holds an own list -/
def lone (Γ : List Sl) (i : Nat) : Bool := (Γ.set i .un).all fun s => !isOwn s
theorem Fm.putOwn {σ : St} {G H : Hp} {i : Nat} {l : Addr} {ds es : List PyData} {ws : List V} (E : Fm C σ Γ G H) (hi : Γ[i]? = some (.own ds)) (hu : lone Γ i = true) (e : σ[i]? = some (some (.ref l))) (h0 : C.H0 l = none) (g : G l = none) {vs : List V}
    (hl : H l = some (.lst vs)) (hw : DqAll C.K G ws es) : Fm C σ (Γ.set i (.own es)) G (upd H l (.lst ws)) where
  fr := E.fr.put hl g (.inr h0)
  inv := C.hI _ _ (fun a o m e => by
    have na : a ≠ l := fun q => C.young h0 (q ▸ m)
    rw [upd_ne na]
    exact e) E.inv
  len := by rw [List.length_set]; exact E.len
  sl := fun j s ej => by
    by_cases hj : i = j
    · subst hj
      obtain ⟨hlt, _⟩ := List.getElem?_eq_some_iff.mp hi
      rw [List.getElem?_set_self hlt] at ej
      cases ej
      exact ⟨_, e, l, ws, rfl, h0, g, upd_same, hw⟩
    · rw [List.getElem?_set_ne hj] at ej
      obtain ⟨o, eo, hs⟩ := E.sl j s ej
      refine ⟨o, eo, ?_⟩
      cases s with
      | un => trivial
      | dat d => exact hs
      | own ys =>
        have q : (Γ.set i .un)[j]? = some (.own ys) := by rw [List.getElem?_set_ne hj]; exact ej
        have q2 := List.all_eq_true.mp hu _ (List.mem_of_getElem? q)
        cases q2
      | dic kvs =>
        obtain ⟨a, ea, a0, ag, ha⟩ := hs
        exact ⟨a, ea, a0, ag, by rw [upd_ne (ne_of ha hl (by intro z; cases z))]; exact ha⟩
      | dir kvs =>
        obtain ⟨a, ea, a0, ha⟩ := hs
        exact ⟨a, ea, a0, by rw [upd_ne (ne_of ha hl (by intro z; cases z))]; exact ha⟩
      | adr p => exact hs
      | spc S =>
        have q : (Γ.set i .un)[j]? = some (.spc S) := by rw [List.getElem?_set_ne hj]; exact ej
        have q2 := List.all_eq_true.mp hu _ (List.mem_of_getElem? q)
        cases q2
      | pol p =>
        obtain ⟨ep, m, gp, u, hu⟩ := hs
        have np : p ≠ l := fun q => C.young h0 (q ▸ m)
        exact ⟨ep, m, gp, u, by rw [upd_ne np]; exact hu⟩
/-- x.append(e) -/
theorem nx_app {i : Nat} {ds : List PyData} (hi : Γ[i]? = some (.own ds)) (hu : lone Γ i = true) (hl : ds.length ≤ 1000) (h : Ev C te Γ P) (k : ∀ d, P d → Nx C (Γ.set i (.own (ds ++ [d]))) nx) : Nx C Γ (tDrop (tBM C.K "list" rAppend (tVar i) (tCons te tNil)) ⟨nx, rt, bk, ct⟩) := fun σ G H E => by
  obtain ⟨o, e, l, vs, rfl, h0, g, hH, ha⟩ := E.sl i _ hi
  refine ⟨.ref l, e, .inl ⟨rfl, _, .of hH⟩, ?_⟩
  refine h σ G H E _ fun v d G2 H2 p f iv hv => ?_
  have E2 := E.stepM f iv
  obtain ⟨o', e', l', vs', rfl, h0', g', hH', ha'⟩ := E2.sl i _ hi
  rw [e] at e'
  cases e'
  exact ⟨l, vs', v, rfl, rfl, hH', small1000 (by rw [dpa_len ha']; exact hl), k d p σ G2 _ (E2.putOwn hi hu e h0' g' hH' (dpa_app ha' (dpa_one hv)))⟩
theorem nx_appD {i : Nat} {ds : List PyData} (hi : Γ[i]? = some (.own ds)) (hu : lone Γ i = true) (hl : ds.length ≤ 1000) (h : EvD C te Γ d) (k : Nx C (Γ.set i (.own (ds ++ [d]))) nx) : Nx C Γ (tDrop (tBM C.K "list" rAppend (tVar i) (tCons te tNil)) ⟨nx, rt, bk, ct⟩) := nx_app hi hu hl h fun _ e => e ▸ k
/-- x.extend(es) -/
theorem nx_ext {i : Nat} {ds es : List PyData} (hi : Γ[i]? = some (.own ds)) (hu : lone Γ i = true) (hl : ds.length + es.length ≤ 1000) (h : EvD C te Γ (.list es)) (k : Nx C (Γ.set i (.own (ds ++ es))) nx) : Nx C Γ (tDrop (tBM C.K "list" rExtend (tVar i) (tCons te tNil)) ⟨nx, rt, bk, ct⟩) := fun σ G H E => by
  obtain ⟨o, e, l, vs, rfl, h0, g, hH, ha⟩ := E.sl i _ hi
  refine ⟨.ref l, e, .inl ⟨rfl, _, .of hH⟩, ?_⟩
  refine h σ G H E _ fun v d G2 H2 p f iv hv => ?_
  subst p
  have E2 := E.stepM f iv
  obtain ⟨o', e', l', vs', rfl, h0', g', hH', ha'⟩ := E2.sl i _ hi
  rw [e] at e'
  cases e'
  obtain ⟨b, ws, rfl, hb, hw⟩ := dp_list hv
  exact ⟨l, b, vs', ws, rfl, rfl, hH', f.gh _ _ hb, Nat.le_of_lt (small1000 (by rw [dpa_len ha', dpa_len hw]; exact hl)), k σ G2 _ (E2.putOwn hi hu e h0' g' hH' (dpa_app ha' hw))⟩
/-- an own list is data from now on -/
theorem Fm.freeze {σ : St} {G H : Hp} {i : Nat} {ds : List PyData} (E : Fm C σ Γ G H) (hi : Γ[i]? = some (.own ds)) (hu : lone Γ i = true) : ∃ G2, Same G G2 ∧ Fm C σ (Γ.set i (.dat (.list ds))) G2 H := by
  obtain ⟨o, e, l, vs, rfl, h0, g, hH, ha⟩ := E.sl i _ hi
  refine ⟨upd G l (.lst vs), same_new g, E.fr.keep hH g h0, E.inv, by rw [List.length_set]; exact E.len, fun j s ej => ?_⟩
  by_cases hj : i = j
  · subst hj
    obtain ⟨hlt, _⟩ := List.getElem?_eq_some_iff.mp hi
    rw [List.getElem?_set_self hlt] at ej
    cases ej
    exact ⟨_, e, .ref l, rfl, .lst upd_same (Dq.monoAll (same_new g) _ _ ha)⟩
  · rw [List.getElem?_set_ne hj] at ej
    obtain ⟨o, eo, hs⟩ := E.sl j s ej
    refine ⟨o, eo, ?_⟩
    cases s with
    | un => trivial
    | dat d =>
      obtain ⟨v, ev, hv⟩ := hs
      exact ⟨v, ev, Dq.mono (same_new g) d v hv⟩
    | own ys =>
      have q : (Γ.set i .un)[j]? = some (.own ys) := by rw [List.getElem?_set_ne hj]; exact ej
      have q2 := List.all_eq_true.mp hu _ (List.mem_of_getElem? q)
      cases q2
    | dic kvs =>
      obtain ⟨a, ea, a0, ag, ha⟩ := hs
      exact ⟨a, ea, a0, by rw [upd_ne (ne_of ha hH (by intro z; cases z))]; exact ag, ha⟩
    | dir kvs => exact hs
    | adr p => exact hs
    | spc S =>
      have q : (Γ.set i .un)[j]? = some (.spc S) := by rw [List.getElem?_set_ne hj]; exact ej
      have q2 := List.all_eq_true.mp hu _ (List.mem_of_getElem? q)
      cases q2
    | pol p =>
      obtain ⟨ep, m, gp, u, hu⟩ := hs
      have np : p ≠ l := fun q => C.young h0 (q ▸ m)
      exact ⟨ep, m, by rw [upd_ne np]; exact gp, u, hu⟩
theorem nx_freeze {i : Nat} {ds : List PyData} {kk : St → Hp → Prop} (hi : Γ[i]? = some (.own ds)) (hu : lone Γ i = true) (k : Nx C (Γ.set i (.dat (.list ds))) kk) : Nx C Γ kk := fun σ G H E => by
  obtain ⟨G2, _, E2⟩ := E.freeze hi hu
  exact k σ G2 H E2

/-! ### for -/
/-- the same run, with more known at its entry -/
abbrev Cn.from (C : Cn) (G1 : Hp) : Cn := { C with G0 := G1 }
inductive Wkn : List Sl → List Sl → Prop
  | nil : Wkn [] []
  | same {s : Sl} {l m : List Sl} (h : Wkn l m) : Wkn (s :: l) (s :: m)
  | un {s : Sl} {l m : List Sl} (h : Wkn l m) : Wkn (s :: l) (.un :: m)
theorem Wkn.len : ∀ {l m : List Sl}, Wkn l m → l.length = m.length
  | _, _, .nil => rfl
  | _, _, .same h => congrArg (· + 1) h.len
  | _, _, .un h => congrArg (· + 1) h.len
theorem Wkn.get : ∀ {l m : List Sl}, Wkn l m → ∀ (i : Nat) (s : Sl), m[i]? = some s → s = .un ∧ i < l.length ∨ l[i]? = some s
  | _, _, .nil, i, s, e => by simp at e
  | _, _, .same h, 0, s, e => .inr e
  | _, _, .un h, 0, s, e => by
    cases e
    exact .inl ⟨rfl, Nat.succ_pos _⟩
  | _, _, .same h, i + 1, s, e => by
    rcases h.get i s e with ⟨a, b⟩ | a
    · exact .inl ⟨a, Nat.succ_lt_succ b⟩
    · exact .inr a
  | _, _, .un h, i + 1, s, e => by
    rcases h.get i s e with ⟨a, b⟩ | a
    · exact .inl ⟨a, Nat.succ_lt_succ b⟩
    · exact .inr a
theorem Fm.weak {σ : St} {Γ' : List Sl} {G H : Hp} (E : Fm C σ Γ G H) (w : Wkn Γ Γ') : Fm C σ Γ' G H where
  fr := E.fr
  inv := E.inv
  len := by rw [← w.len]; exact E.len
  sl := fun i s e => by
    rcases w.get i s e with ⟨rfl, hl⟩ | h
    · have : i < σ.length := by rw [E.len]; exact hl
      exact ⟨_, List.getElem?_eq_getElem this, trivial⟩
    · exact E.sl i s h
theorem SlOk.from {G1 G H : Hp} {s : Sl} {o : Option V} (h : SlOk C G H s o) : SlOk (C.from G1) G H s o := by
  cases s <;> exact h
theorem SlOk.back {G1 G H : Hp} {s : Sl} {o : Option V} (h : SlOk (C.from G1) G H s o) : SlOk C G H s o := by
  cases s <;> exact h
/-- what holds behind a turn -/
def Kx (C : Cn) (GI : List Sl → Prop) : St → Hp → Prop := fun σ H => ∃ Γ G, GI Γ ∧ Fm C σ Γ G H
theorem nx_kx {GI : List Sl → Prop} {Γ' : List Sl} (h : GI Γ') (w : Wkn Γ Γ') : Nx C Γ (Kx C GI) := fun σ G H E => ⟨Γ', G, h, E.weak w⟩
theorem nx_for {wi : TI} {g : TG} {P : List PyData → Prop} (GI : List PyData → Nat → List Sl → Prop) {Γ0 : List Sl} (hw : Wk C wi Γ P) (w0 : Wkn Γ Γ0) (h0 : ∀ ds, P ds → GI ds 0 Γ0)
    (hs : ∀ (ds : List PyData) (i : Nat) (d : PyData) (Γ' : List Sl) (G1 : Hp), P ds → ds[i]? = some d → GI ds i Γ' → ∃ Γ2 vs, Tg (C.from G1) g vs Γ' d Γ2 ∧ Nx (C.from G1) Γ2 (tu ⟨Kx (C.from G1) (GI ds (i + 1)), rt, nx, Kx (C.from G1) (GI ds (i + 1))⟩))
    (hd : ∀ (ds : List PyData) (Γ' : List Sl), P ds → GI ds ds.length Γ' → Nx C Γ' nx) : Nx C Γ (tFor wi g tu ⟨nx, rt, bk, ct⟩) := fun σ G H E => hw σ G H E _ fun ds J G1 H1 pd f1 i1 W => by
  have E1 := E.stepM f1 i1
  refine for_it W (fun i σ' H' => ∃ Γ' G', GI ds i Γ' ∧ Fm (C.from G1) σ' Γ' G' H') ⟨Γ0, G1, h0 ds pd, ⟨⟨Same.refl G1, E1.fr.gh, E1.fr.hh, fun a o u e e0 => ⟨o, e⟩, E1.fr.live⟩, i1, (E1.weak w0).len, fun i s e => ?_⟩⟩ (fun i σ' H' _ ⟨Γ', G', _, E'⟩ => E'.fr.gg.trans E'.fr.gh) ?_ ?_
  · obtain ⟨o, eo, h⟩ := (E1.weak w0).sl i s e
    exact ⟨o, eo, h.from⟩
  · rintro i x σ' H' H'' hi ⟨Γ', G', gi, E'⟩ hy
    have hd' : ds[i]? = some ds[i] := List.getElem?_eq_getElem hi
    obtain ⟨G2, f2, hx⟩ := hy _ hd' G' E'.fr.gg E'.fr.gh
    obtain ⟨Γ2, vs, ht, hn⟩ := hs ds i _ Γ' G1 pd hd' gi
    exact ht σ' G2 H'' x (E'.step f2) hx _ fun σ2 E2 _ => hn σ2 G2 H'' E2
  · rintro σ' H' ⟨Γ', G', gi, E'⟩
    refine hd ds Γ' pd gi σ' G' H' ⟨⟨E1.fr.gg.trans E'.fr.gg, E'.fr.gh, E'.fr.hh, fun a o u e e0 => ?_, E'.fr.live⟩, E'.inv, E'.len, fun i s e => ?_⟩
    · obtain ⟨z, ez⟩ := E'.fr.fr a o u e e0
      exact E1.fr.fr a z u ez e0
    · obtain ⟨o, eo, h⟩ := E'.sl i s e
      exact ⟨o, eo, h.back⟩
/-- told by the turn alone -/
theorem nx_forD {wi : TI} {g : TG} (Γf : Nat → List Sl) (hw : WkD C wi Γ ds) (w0 : Wkn Γ (Γf 0))
    (hs : ∀ (i : Nat) (d : PyData) (G1 : Hp), ds[i]? = some d → ∃ Γ2 vs, Tg (C.from G1) g vs (Γf i) d Γ2 ∧ Nx (C.from G1) Γ2 (tu ⟨Kx (C.from G1) (fun z => z = Γf (i + 1)), rt, nx, Kx (C.from G1) (fun z => z = Γf (i + 1))⟩))
    (hd : Nx C (Γf ds.length) nx) : Nx C Γ (tFor wi g tu ⟨nx, rt, bk, ct⟩) :=
  nx_for (fun _ i z => z = Γf i) hw w0 (fun _ _ => rfl) (fun ds' i d Γ' G1 e he gi => by
    subst e; subst gi
    exact hs i d G1 he) fun ds' Γ' e gi => by
    subst e; subst gi
    exact hd
end
end SN

/-! SN: the defs of the text, what the top has left, a def's body from its data. -/
namespace SN
open PySem L2
/-! ### the text by places -/
def topS (i : Nat) : Stmt := PySem.Challenge.pw_snapsure_k11_whole_named_there_and_back.main.body.getD i (.Pass ⟨0, 0, 0, 0⟩)
abbrev FnP (K : PySem.W.Frag) (x : Str) (i : Nat) (dvs : List V) (f : Addr) (fd : FuncData) : Prop := FunD K x x (defArgs (topS i)) (defBody (topS i)) (defScope (topS i)) dvs [] f fd
/-- what the top has left -/
structure Tx (w : World) (K : PySem.W.Frag) (mg : Str → Option Value) : Prop where
  isinstance : mg "isinstance" = none
  len : mg "len" = none
  all : mg "all" = none
  enumerate : mg "enumerate" = none
  zip : mg "zip" = none
  dict : mg "dict" = none
  list : mg "list" = none
  set : mg "set" = none
  int : mg "int" = none
  str : mg "str" = none
  bool : mg "bool" = none
  tuple : mg "tuple" = none
  range : mg "range" = none
  max : mg "max" = none
  min : mg "min" = none
  gSIGNS : ∃ t, mg "SIGNS" = some (.str sAlpha t)
  gMOST_SIGNS : ∃ t, mg "MOST_SIGNS" = some (.int 8 t)
  gMOST_KINDS : ∃ t, mg "MOST_KINDS" = some (.int 6 t)
  gMOST_DEALINGS : ∃ t, mg "MOST_DEALINGS" = some (.int 8 t)
  gMOST_LETTERS : ∃ t, mg "MOST_LETTERS" = some (.int 4 t)
  gMOST_STEPS : ∃ t, mg "MOST_STEPS" = some (.int 8 t)
  gDEEDS : ∃ a, mg "DEEDS" = some (.ref a) ∧ ∀ H, SqT K H a [.str sRead, .str sWrite, .str sAsk]
  gMANY : ∃ a, mg "MANY" = some (.ref a) ∧ KDct K w a sMany (.bl true) ∧ KDct K w a sOne (.bl false)
section
variable {X : Cx}
theorem gstr {x z : Str} {pos : Pos} (h : ∃ t, X.mg x = some (.str z t)) (hg : Gl X x := by rfl) (hd : (x == ("__debug__" : Str)) = false := by decide) : PE X (.Name x pos) (tC (.str z)) := by
  obtain ⟨t, h⟩ := h
  exact pe_glob hg h ⟨t, rfl⟩ hd
theorem gint {x : Str} {i : Int} {pos : Pos} (h : ∃ t, X.mg x = some (.int i t)) (hg : Gl X x := by rfl) (hd : (x == ("__debug__" : Str)) = false := by decide) : PE X (.Name x pos) (tC (.int i)) := by
  obtain ⟨t, h⟩ := h
  exact pe_glob hg h ⟨t, rfl⟩ hd
/-- an object of the top, by what holds of it -/
def tG (P : Addr → Prop) : TE := fun _ H Q => ∀ a, P a → Q (.ref a) H
theorem gref {x : Str} {P : Addr → Prop} {pos : Pos} (h : ∃ a, X.mg x = some (.ref a) ∧ P a) (hg : Gl X x := by rfl) (hd : (x == ("__debug__" : Str)) = false := by decide) : PE X (.Name x pos) (tG P) := by
  obtain ⟨a, h, hp⟩ := h
  have h1 : PE X (.Name x pos) (tC (.ref a)) := pe_glob hg h rfl hd
  exact ⟨fun pins s σ H Q I hq => h1.run pins s σ H Q I (hq a hp)⟩
/-- a def of the text, called -/
structure Kd (P : Program) (w : World) (K : PySem.W.Frag) (mg : Str → Option Value) (base : Heap) (x : Str) (ps : List Str) (sp : Sp) (k : Nat) : Prop where
  ex : ∃ f fd, mg x = some (.ref f) ∧ PySem.W.keepIn K (.ref f) = true ∧ Binds K fd ps [] ∧ FnOk P w K mg base CX0 k f fd ps sp
theorem pe_df {x : Str} {p pos : Pos} {e : Expr} {es : List Expr} {t : TA} {ps : List Str} {sp : Sp} {k : Nat} (D : Kd X.prog X.w X.K X.mg X.base x ps sp k) (hr : Room k X.A) (hg : Gl X x) (ha : PA X (e :: es) t)
    (hdb : (x == ("__debug__" : Str)) = false := by decide) (he : starEach (e :: es) X.env = (false, eval e X.env) :: starEach es X.env := by rfl) (hpl : (backTo pos (starEach es X.env)).any (·.1) = false := by rfl) :
    PE X (.Call (.Name x p) (e :: es) [] pos) (tCall sp [] E0 t) := by
  obtain ⟨f, fd, h1, h2, h3, h4⟩ := D.ex
  exact pe_call h4 hr hg h1 h2 h3 .nil pass0 ha hdb he hpl
end

/-! ### a body from its data -/
theorem sl_of {C : Cn} {G H : Hp} : ∀ {vs : List V} {ds : List PyData}, DqAll C.K G vs ds → ∀ (n i : Nat) (s : Sl), (ds.map Sl.dat ++ List.replicate n Sl.un)[i]? = some s → ∃ o, (vs.map some ++ List.replicate n none)[i]? = some o ∧ SlOk C G H s o
  | _, _, .nil, n, i, s, e => by
    simp only [List.map_nil, List.nil_append] at e ⊢
    rw [List.getElem?_replicate] at e ⊢
    by_cases h : i < n
    · rw [if_pos h] at e ⊢
      cases e
      exact ⟨none, rfl, trivial⟩
    · rw [if_neg h] at e
      cases e
  | _, _, .cons (v := v) h t, n, 0, s, e => by
    cases e
    exact ⟨some v, rfl, v, rfl, h⟩
  | _, _, .cons h t, n, i + 1, s, e => sl_of t n i s e
/-- a pure def's run -/
abbrev Cp (K : PySem.W.Frag) (G H : Hp) : Cn := ⟨K, M0, fun _ => True, G, H, fun _ z => z.elim, fun _ _ _ _ => trivial⟩
theorem fm_start {K : PySem.W.Frag} {G H : Hp} {vs : List V} {ds : List PyData} {N : List Str} (s : Same G H) (h : DqAll K G vs ds) : Fm (Cp K G H) (start N vs) (ds.map Sl.dat ++ List.replicate (N.length - vs.length) Sl.un) G H where
  fr := Fr.refl s
  inv := trivial
  len := by
    unfold L2.start
    rw [List.length_append, List.length_append, List.length_map, List.length_map, List.length_replicate, List.length_replicate, dpa_len h]
  sl := sl_of h _
/-- the reading of a pure def's body -/
theorem nx_start {K : PySem.W.Frag} {G H : Hp} {vs : List V} {ds : List PyData} {N : List Str} {t : TS} {D : Ends} (s : Same G H) (h : DqAll K G vs ds) (k : Nx (Cp K G H) (ds.map Sl.dat ++ List.replicate (N.length - ds.length) Sl.un) (t D)) : t D (start N vs) H := by
  have f := fm_start (N := N) s h
  rw [dpa_len h] at f
  exact k _ G H f
section
variable {K : PySem.W.Frag} {G H : Hp} {Γ : List Sl} {te : TE} {z : PyData} {Q : VK} {nx bk ct : St → Hp → Prop}
theorem nx_out (h : EvD (Cp K G H) te Γ z) (q : ∀ v G2 H2, Fr M0 G H G2 H2 → Dq K G2 v z → Q v H2) : Nx (Cp K G H) Γ (tRet te ⟨nx, Q, bk, ct⟩) :=
  nx_ret h fun σ v d G2 H2 p E hv => by
    subst p
    exact q v G2 H2 E.fr hv
theorem nx_fall (q : ∀ v G2 H2, Fr M0 G H G2 H2 → Dq K G2 v .none → Q v H2) : Nx (Cp K G H) Γ (fun _ H' => Q .non H') := fun σ G2 H2 E => q .non G2 H2 E.fr .non
end
theorem pure_len {K : PySem.W.Frag} {R : List PyData → PyData → Prop} {n : Nat} (h : ∀ ds z, R ds z → ds.length = n) {vs : List V} {H : Hp} {Q : VK} {E : XK} (p : pureSp K R vs H Q E) : vs.length = n := by
  obtain ⟨G, ds, z, _, hv, r, _⟩ := p
  rw [dpa_len hv]
  exact h ds z r
/-- a pure def keeps its word: its body as a term, and what that term is worth -/
theorem pure_fn {P : Program} {w : World} {K : PySem.W.Frag} {mg : Str → Option Value} {base : Heap} {f : Addr} {fd : FuncData} {x : Str} {i k : Nat} {dvs : List V} {N ps : List Str} {R : List PyData → PyData → Prop} (F : FnP K x i dvs f fd) (S : FnScope N ps (defScope (topS i))) (hl : ∀ ds z, R ds z → ds.length = ps.length)
    (hb : ∀ (cdv : Value) (A : Around) (outer : List PySem.Env) (s : Shared) (H : Hp) (E : XK), Room k (A.deeper (PyProof.Rows.envOfC x (defScope (topS i)) s.heap.objs.size f cdv)) → ∃ t, PSs (cxOf CX0 P w K mg base N x (defScope (topS i)) f cdv A outer s H E).nox (defBody (topS i)) t ∧
      ∀ (G H : Hp) (ds : List PyData) (z : PyData) (Q : VK), R ds z → (∀ v G2 H2, Fr M0 G H G2 H2 → Dq K G2 v z → Q v H2) → Nx (Cp K G H) (ds.map Sl.dat ++ List.replicate (N.length - ds.length) Sl.un) (t ⟨fun _ H' => Q .non H', Q, fun _ _ => False, fun _ _ => False⟩)) :
    FnOk P w K mg base CX0 (k + 1) f fd ps (pureSp K R) := by
  refine F.ok S (fun vs H Q E h => pure_len hl h) (fun cdv A outer s H vs Q E hr h => ?_)
  obtain ⟨G, ds, z, sg, hv, r, q⟩ := h
  obtain ⟨t, h1, h2⟩ := hb cdv A outer s H E hr
  exact ⟨t, h1.nox, nx_start sg hv (h2 G H ds z Q r q)⟩
end SN

/-! SN: a book's rows, written and read. -/
namespace SN
open PySem
def sKind : Str := Str.ofString "kind"
def sDeal : Str := Str.ofString "deal"
def sSp : Str := Str.ofString " "
def sNl : Str := Str.ofString "\n"
def sCo : Str := Str.ofString ":"
inductive Rw where
  | kind (n : Str) (m : Bool)
  | deal (n : Str) (ls : List Pr)
  | step (d l : Str)
def ltW (p : Pr) : Str := p.1 ++ sCo ++ p.2
def Rw.words : Rw → List Str
  | .kind n m => [sKind, n, if m then sMany else sOne]
  | .deal n ls => [sDeal, n] ++ ls.map ltW
  | .step d l => [d, l]
def Rw.text (r : Rw) : Str := Txt.join sSp r.words
def rowsD (d : Deal) : List Rw := .deal d.1 d.2.1 :: d.2.2.map fun p => .step p.1 p.2
def rowsB (b : Book) : List Rw := b.1.map (fun k => .kind k.1 k.2) ++ b.2.flatMap rowsD
def textB (b : Book) : Str := Txt.join sNl ((rowsB b).map Rw.text)
def addL (ds : List Deal) (p : Pr) : List Deal := match ds.getLast? with
  | none => ds
  | some d => ds.dropLast ++ [(d.1, d.2.1, d.2.2 ++ [p])]
def addR (b : Book) : Rw → Book
  | .kind n m => (b.1 ++ [(n, m)], b.2)
  | .deal n ls => (b.1, b.2 ++ [(n, ls, [])])
  | .step d l => (b.1, addL b.2 (d, l))
/-- a row that may come next -/
def okR (b : Book) : Rw → Prop
  | .kind _ _ => b.2 = []
  | .deal _ _ => True
  | .step _ _ => b.2 ≠ []
def runs (b : Book) : List Rw → Prop
  | [] => True
  | r :: rs => okR b r ∧ runs (addR b r) rs
theorem runs_app : ∀ {rs rs' : List Rw} {b : Book}, runs b rs → runs (rs.foldl addR b) rs' → runs b (rs ++ rs')
  | [], _, _, _, h => h
  | _ :: rs, _, _, h, h' => ⟨h.1, runs_app (rs := rs) h.2 h'⟩
theorem runs_at : ∀ {rs : List Rw} {b : Book} (i : Nat) {r : Rw}, runs b rs → rs[i]? = some r → okR ((rs.take i).foldl addR b) r
  | [], _, _, _, _, e => by simp at e
  | _ :: _, _, 0, _, h, e => by
    cases e
    exact h.1
  | _ :: rs, _, i + 1, _, h, e => runs_at (rs := rs) i h.2 e
theorem addL_snoc (ds : List Deal) (d : Deal) (p : Pr) : addL (ds ++ [d]) p = ds ++ [(d.1, d.2.1, d.2.2 ++ [p])] := by
  unfold addL
  rw [List.getLast?_append, List.dropLast_concat]
  rfl
theorem run_steps (ks : List (Str × Bool)) (ds : List Deal) (n : Str) (ls : List Pr) : ∀ (ps qs : List Pr), (ps.map fun p => Rw.step p.1 p.2).foldl addR (ks, ds ++ [(n, ls, qs)]) = (ks, ds ++ [(n, ls, qs ++ ps)]) ∧ runs (ks, ds ++ [(n, ls, qs)]) (ps.map fun p => Rw.step p.1 p.2)
  | [], qs => ⟨by rw [List.append_nil]; rfl, trivial⟩
  | p :: ps, qs => by
    have e : addR (ks, ds ++ [(n, ls, qs)]) (.step p.1 p.2) = (ks, ds ++ [(n, ls, qs ++ [p])]) := by
      show (ks, addL (ds ++ [(n, ls, qs)]) p) = _
      rw [addL_snoc]
    obtain ⟨i1, i2⟩ := run_steps ks ds n ls ps (qs ++ [p])
    refine ⟨?_, ?_, ?_⟩
    · show (ps.map _).foldl addR (addR (ks, ds ++ [(n, ls, qs)]) (.step p.1 p.2)) = _
      rw [e, i1, List.append_assoc]
      rfl
    · show ds ++ [(n, ls, qs)] ≠ []
      simp
    · show runs (addR (ks, ds ++ [(n, ls, qs)]) (.step p.1 p.2)) _
      rw [e]
      exact i2
theorem run_deals (ks : List (Str × Bool)) : ∀ (es ds : List Deal), (es.flatMap rowsD).foldl addR (ks, ds) = (ks, ds ++ es) ∧ runs (ks, ds) (es.flatMap rowsD)
  | [], ds => ⟨by rw [List.append_nil]; rfl, trivial⟩
  | d :: es, ds => by
    obtain ⟨s1, s2⟩ := run_steps ks ds d.1 d.2.1 d.2.2 []
    obtain ⟨i1, i2⟩ := run_deals ks es (ds ++ [d])
    have e1 : (rowsD d).foldl addR (ks, ds) = (ks, ds ++ [d]) := by
      show (d.2.2.map _).foldl addR (ks, ds ++ [(d.1, d.2.1, [])]) = _
      rw [s1]
      rfl
    rw [List.flatMap_cons]
    refine ⟨?_, runs_app ⟨trivial, s2⟩ ?_⟩
    · rw [List.foldl_append, e1, i1, List.append_assoc]
      rfl
    · rw [e1]
      exact i2
theorem run_kinds : ∀ (ms ks : List (Str × Bool)), (ms.map fun k => Rw.kind k.1 k.2).foldl addR (ks, []) = (ks ++ ms, []) ∧ runs (ks, []) (ms.map fun k => Rw.kind k.1 k.2)
  | [], ks => ⟨by rw [List.append_nil]; rfl, trivial⟩
  | m :: ms, ks => by
    obtain ⟨i1, i2⟩ := run_kinds ms (ks ++ [m])
    exact ⟨by
      show (ms.map _).foldl addR (ks ++ [m], []) = _
      rw [i1, List.append_assoc]
      rfl, rfl, i2⟩
theorem run_book (b : Book) : (rowsB b).foldl addR ([], []) = b ∧ runs ([], []) (rowsB b) := by
  obtain ⟨k1, k2⟩ := run_kinds b.1 []
  obtain ⟨d1, d2⟩ := run_deals b.1 b.2 []
  unfold rowsB
  rw [List.nil_append] at k1 d1
  refine ⟨?_, runs_app k2 ?_⟩
  · rw [List.foldl_append, k1, d1]
  · rw [k1]
    exact d2

/-! ### the rows of a book -/
structure RwOk (r : Rw) : Prop where
  /-- no word is empty, none has a blank or a line feed in it -/
  wd : ∀ x ∈ r.words, x ≠ Str.empty ∧ 32 ∉ TL.tl x ∧ 10 ∉ TL.tl x
  sh : match r with
    | .kind n m => IsName n
    | .deal n ls => 1 ≤ ls.length ∧ ls.length ≤ 4 ∧ (∀ p ∈ ls, IsLet p.1 ∧ IsName p.2) ∧ IsName n
    | .step d l => d ∈ dds ∧ IsLet l
  ln : r.words ≠ [] ∧ r.words.length ≤ 6 ∧ ∀ x ∈ r.words, x.length ≤ 10
theorem name_free {x : Str} (h : IsName x) : x ≠ Str.empty ∧ 32 ∉ TL.tl x ∧ 10 ∉ TL.tl x := by
  refine ⟨fun e => ?_, fun m => ?_, fun m => ?_⟩
  · have h1 := h.1
    rw [e] at h1
    exact absurd h1 (by decide)
  · have := alpha_lt 32 (h.2.2 32 m)
    omega
  · have := alpha_lt 10 (h.2.2 10 m)
    omega
theorem let_name {x : Str} (h : IsLet x) : IsName x := by
  obtain ⟨c, rfl, hc⟩ := h
  exact ⟨Nat.le_refl 1, (by decide : 1 ≤ 8), fun d hd => by
    have : d = c := by simpa using hd
    rw [this]
    exact hc⟩
theorem let_len {x : Str} (h : IsLet x) : x.length = 1 := by
  obtain ⟨c, rfl, hc⟩ := h
  rfl
theorem dds_ok : ∀ x ∈ dds, x ≠ Str.empty ∧ 32 ∉ TL.tl x ∧ 10 ∉ TL.tl x ∧ x.length ≤ 10 ∧ x ≠ sKind ∧ x ≠ sDeal := by
  intro x hx
  have e : x = sRead ∨ x = sWrite ∨ x = sAsk := by simpa [dds] using hx
  rcases e with e | e | e <;> rw [e] <;> decide +kernel
theorem co_tl : TL.tl sCo = [58] := by decide +kernel
theorem sp_tl : TL.tl sSp = [32] := by decide +kernel
theorem nl_tl : TL.tl sNl = [10] := by decide +kernel
theorem tl_ltW (p : Pr) : TL.tl (ltW p) = TL.tl p.1 ++ [58] ++ TL.tl p.2 := by
  unfold ltW
  rw [TL.tl_append, TL.tl_append, co_tl]
theorem ltW_free {p : Pr} (h1 : IsLet p.1) (h2 : IsName p.2) : ltW p ≠ Str.empty ∧ 32 ∉ TL.tl (ltW p) ∧ 10 ∉ TL.tl (ltW p) := by
  obtain ⟨a1, a2, a3⟩ := name_free (let_name h1)
  obtain ⟨b1, b2, b3⟩ := name_free h2
  refine ⟨fun e => ?_, ?_, ?_⟩
  · have h := congrArg TL.tl e
    rw [tl_ltW] at h
    simp [TL.tl, Str.empty] at h
  · rw [tl_ltW]
    simp only [List.mem_append, List.mem_singleton]
    rintro ((m | m) | m)
    · exact a2 m
    · omega
    · exact b2 m
  · rw [tl_ltW]
    simp only [List.mem_append, List.mem_singleton]
    rintro ((m | m) | m)
    · exact a3 m
    · omega
    · exact b3 m
theorem ltW_len {p : Pr} (h1 : IsLet p.1) (h2 : IsName p.2) : (ltW p).length ≤ 10 := by
  have e := tl_ltW p
  rw [TL.len_tl, e, List.length_append, List.length_append, ← TL.len_tl, ← TL.len_tl, let_len h1]
  have := h2.2.1
  show 1 + 1 + p.2.length ≤ 10
  omega
theorem words_ok : (sKind ≠ Str.empty ∧ 32 ∉ TL.tl sKind ∧ 10 ∉ TL.tl sKind ∧ sKind.length ≤ 10) ∧ (sDeal ≠ Str.empty ∧ 32 ∉ TL.tl sDeal ∧ 10 ∉ TL.tl sDeal ∧ sDeal.length ≤ 10) ∧ (sMany ≠ Str.empty ∧ 32 ∉ TL.tl sMany ∧ 10 ∉ TL.tl sMany ∧ sMany.length ≤ 10) ∧
    (sOne ≠ Str.empty ∧ 32 ∉ TL.tl sOne ∧ 10 ∉ TL.tl sOne ∧ sOne.length ≤ 10) := by decide +kernel
theorem row_kind {n : Str} {m : Bool} (h : IsName n) : RwOk (.kind n m) where
  sh := h
  wd := fun x hx => by
    obtain ⟨a, b, c, d⟩ := words_ok
    have e : x = sKind ∨ x = n ∨ x = (if m then sMany else sOne) := by simpa [Rw.words] using hx
    rcases e with e | e | e
    · rw [e]; exact ⟨a.1, a.2.1, a.2.2.1⟩
    · rw [e]; exact name_free h
    · rw [e]
      cases m
      · exact ⟨d.1, d.2.1, d.2.2.1⟩
      · exact ⟨c.1, c.2.1, c.2.2.1⟩
  ln := by
    obtain ⟨a, b, c, d⟩ := words_ok
    refine ⟨by simp [Rw.words], (by show 3 ≤ 6; decide), fun x hx => ?_⟩
    have e : x = sKind ∨ x = n ∨ x = (if m then sMany else sOne) := by simpa [Rw.words] using hx
    rcases e with e | e | e
    · rw [e]; exact a.2.2.2
    · rw [e]; have := h.2.1; omega
    · rw [e]
      cases m
      · exact d.2.2.2
      · exact c.2.2.2
theorem row_deal {n : Str} {ls : List Pr} (h : IsName n) (h1 : 1 ≤ ls.length) (h4 : ls.length ≤ 4) (hl : ∀ p ∈ ls, IsLet p.1 ∧ IsName p.2) : RwOk (.deal n ls) where
  sh := ⟨h1, h4, hl, h⟩
  wd := fun x hx => by
    obtain ⟨a, b, c, d⟩ := words_ok
    have e : x = sDeal ∨ x = n ∨ x ∈ ls.map ltW := by
      have e := hx
      show x = sDeal ∨ x = n ∨ x ∈ ls.map ltW
      rcases List.mem_cons.mp e with e | e
      · exact .inl e
      · rcases List.mem_cons.mp e with e | e
        · exact .inr (.inl e)
        · exact .inr (.inr e)
    rcases e with e | e | e
    · rw [e]; exact ⟨b.1, b.2.1, b.2.2.1⟩
    · rw [e]; exact name_free h
    · obtain ⟨p, hp, rfl⟩ := List.mem_map.mp e
      exact ltW_free (hl p hp).1 (hl p hp).2
  ln := by
    obtain ⟨a, b, c, d⟩ := words_ok
    refine ⟨by simp [Rw.words], ?_, fun x hx => ?_⟩
    · show (sDeal :: n :: ls.map ltW).length ≤ 6
      rw [List.length_cons, List.length_cons, List.length_map]
      omega
    · have e : x = sDeal ∨ x = n ∨ x ∈ ls.map ltW := by
        have e := hx
        show x = sDeal ∨ x = n ∨ x ∈ ls.map ltW
        rcases List.mem_cons.mp e with e | e
        · exact .inl e
        · rcases List.mem_cons.mp e with e | e
          · exact .inr (.inl e)
          · exact .inr (.inr e)
      rcases e with e | e | e
      · rw [e]; exact b.2.2.2
      · rw [e]; have := h.2.1; omega
      · obtain ⟨p, hp, rfl⟩ := List.mem_map.mp e
        exact ltW_len (hl p hp).1 (hl p hp).2
theorem row_step {d l : Str} (h : d ∈ dds) (hl : IsLet l) : RwOk (.step d l) where
  sh := ⟨h, hl⟩
  wd := fun x hx => by
    have e : x = d ∨ x = l := by simpa [Rw.words] using hx
    rcases e with e | e
    · rw [e]
      obtain ⟨a, b, c, _⟩ := dds_ok d h
      exact ⟨a, b, c⟩
    · rw [e]; exact name_free (let_name hl)
  ln := by
    refine ⟨by simp [Rw.words], (by show 2 ≤ 6; decide), fun x hx => ?_⟩
    have e : x = d ∨ x = l := by simpa [Rw.words] using hx
    rcases e with e | e
    · rw [e]
      exact (dds_ok d h).2.2.2.1
    · rw [e, let_len hl]; decide
theorem rows_ok {b : Book} (w : WB b) : ∀ r ∈ rowsB b, RwOk r := by
  have kn : ∀ n ∈ b.1.map Prod.fst, IsName n := fun n hn => by
    obtain ⟨k, hk, rfl⟩ := List.mem_map.mp hn
    exact w.kn k hk
  intro r hr
  rcases List.mem_append.mp hr with h | h
  · obtain ⟨k, hk, rfl⟩ := List.mem_map.mp h
    exact row_kind (w.kn k hk)
  · obtain ⟨d, hd, hr⟩ := List.mem_flatMap.mp h
    have wd := w.ds d hd
    rcases List.mem_cons.mp hr with e | e
    · rw [e]
      exact row_deal wd.name wd.l1 wd.l4 fun p hp => ⟨(wd.lt p hp).1, kn _ (wd.lt p hp).2⟩
    · obtain ⟨p, hp, rfl⟩ := List.mem_map.mp e
      obtain ⟨q, hq, eq⟩ := List.mem_map.mp (wd.st p hp).2
      exact row_step (wd.st p hp).1 (by rw [← eq]; exact (wd.lt q hq).1)
theorem flat_len : ∀ {ds : List Deal}, (∀ d ∈ ds, d.2.2.length ≤ 8) → (ds.flatMap rowsD).length ≤ 9 * ds.length
  | [], _ => Nat.le_refl _
  | d :: ds, h => by
    have ih := flat_len (ds := ds) fun e he => h e (List.mem_cons_of_mem _ he)
    have h1 := h d (List.mem_cons_self ..)
    rw [List.flatMap_cons, List.length_append, List.length_cons]
    have h2 : (rowsD d).length = d.2.2.length + 1 := by
      show (d.2.2.map _).length + 1 = _
      rw [List.length_map]
    omega
theorem rows_len {b : Book} (w : WB b) : 1 ≤ (rowsB b).length ∧ (rowsB b).length ≤ 100 := by
  have h := flat_len fun d hd => (w.ds d hd).s8
  have e : (rowsB b).length = b.1.length + (b.2.flatMap rowsD).length := by
    unfold rowsB
    rw [List.length_append, List.length_map]
  have k1 := w.k1
  have k6 := w.k6
  have d8 := w.d8
  omega
/-- a row cut at its blanks -/
theorem cut_words {r : Rw} (h : RwOk r) : Txt.split r.text sSp = r.words := by
  unfold Rw.text
  exact TL.split_join (s := 32) (S := []) sp_tl (by decide +kernel) h.ln.1 fun p hp => (h.wd p hp).2.1
theorem join_free {sep : Str} {c : Nat} (hs : c ∉ TL.tl sep) : ∀ {xs : List Str}, (∀ x ∈ xs, c ∉ TL.tl x) → c ∉ TL.tl (Str.join sep xs)
  | [], _ => by simp [TL.tl, Str.join, Str.empty]
  | [x], h => h x (List.mem_cons_self ..)
  | x :: y :: r, h => by
    have ih := join_free hs (xs := y :: r) fun z hz => h z (List.mem_cons_of_mem _ hz)
    show c ∉ TL.tl (x ++ sep ++ Str.join sep (y :: r))
    rw [TL.tl_append, TL.tl_append]
    simp only [List.mem_append]
    rintro ((m | m) | m)
    · exact h x (List.mem_cons_self ..) m
    · exact hs m
    · exact ih m
theorem join_len {sep : Str} {k : Nat} : ∀ {xs : List Str}, (∀ x ∈ xs, x.length ≤ k) → (Str.join sep xs).length ≤ xs.length * (k + sep.length)
  | [], _ => Nat.zero_le _
  | [x], h => by
    have := h x (List.mem_cons_self ..)
    show x.length ≤ 1 * _
    omega
  | x :: y :: r, h => by
    have ih := join_len (sep := sep) (xs := y :: r) fun z hz => h z (List.mem_cons_of_mem _ hz)
    have h1 := h x (List.mem_cons_self ..)
    show (x ++ sep ++ Str.join sep (y :: r)).length ≤ _
    rw [Str.length_append, Str.length_append]
    rw [List.length_cons, Nat.succ_mul]
    omega
theorem row_len {r : Rw} (h : RwOk r) : r.text.length ≤ 66 := by
  unfold Rw.text
  rw [TL.join_eq]
  have h1 := join_len (sep := sSp) (k := 10) h.ln.2.2
  have h2 : sSp.length = 1 := by decide +kernel
  have h3 := h.ln.2.1
  have h4 : r.words.length * (10 + sSp.length) ≤ 6 * 11 := by
    rw [h2]
    exact Nat.mul_le_mul_right _ h3
  omega
theorem cut_rows {b : Book} (w : WB b) : Txt.split (textB b) sNl = (rowsB b).map Rw.text := by
  unfold textB
  refine TL.split_join (s := 10) (S := []) nl_tl (by decide +kernel) (fun e => ?_) fun p hp => ?_
  · have h1 := (rows_len w).1
    have h2 := congrArg List.length e
    rw [List.length_map] at h2
    rw [h2] at h1
    exact absurd h1 (by decide)
  · obtain ⟨r, hr, rfl⟩ := List.mem_map.mp hp
    unfold Rw.text
    rw [TL.join_eq]
    exact join_free (by rw [sp_tl]; decide) fun x hx => ((rows_ok w r hr).wd x hx).2.2
theorem text_len {b : Book} (w : WB b) : (textB b).length ≤ 6700 := by
  unfold textB
  rw [TL.join_eq]
  have h1 := join_len (sep := sNl) (k := 66) (xs := (rowsB b).map Rw.text) fun x hx => by
    obtain ⟨r, hr, rfl⟩ := List.mem_map.mp hx
    exact row_len (rows_ok w r hr)
  have h2 : sNl.length = 1 := by decide +kernel
  have h3 := (rows_len w).2
  rw [List.length_map, h2] at h1
  have h4 : (rowsB b).length * (66 + 1) ≤ 100 * 67 := Nat.mul_le_mul_right _ h3
  omega
end SN

/-! SN: small steps for the defs. -/
namespace SN
open PySem L2
theorem ki_ii : kitB "int" "int" = some true := by decide +kernel
theorem ki_ib : kitB "int" "bool" = some false := by decide +kernel
theorem ki_ss : kitB "str" "str" = some true := by decide +kernel
theorem ki_bb : kitB "bool" "bool" = some true := by decide +kernel
theorem ki_ll : kitB "list" "list" = some true := by decide +kernel
theorem ki_tt : kitB "tuple" "tuple" = some true := by decide +kernel
/-! ### data -/
def eP (p : Pr) : PyData := .tuple [.str p.1, .str p.2]
def eK (k : Str × Bool) : PyData := .tuple [.str k.1, .bool k.2]
def eS (xs : List Str) : PyData := .list (xs.map .str)
def eD (d : Deal) : PyData := .tuple [.str d.1, .list (d.2.1.map eP), .list (d.2.2.map eP)]
def eB (b : Book) : PyData := .tuple [.list (b.1.map eK), .list (b.2.map eD)]
section
variable {C : Cn} {Γ : List Sl} {te ta tb : TE} {tr : TA}
theorem ev_all {α : Type} {xs : List α} (h : EvD C te Γ (.list (xs.map fun _ => .bool true))) : EvD C (tCB (rAll C.K) (tCons te tNil)) Γ (.bool true) := by
  have e : (xs.map fun _ => PyData.bool true) = (xs.map fun _ => true).map PyData.bool := by rw [List.map_map]; rfl
  rw [e] at h
  refine (ev_cb (ea_cons h ea_nil) cb_all).imp fun z ez => ?_
  rw [ez]
  refine congrArg PyData.bool (List.all_eq_true.mpr fun b hb => ?_)
  obtain ⟨_, _, rfl⟩ := List.mem_map.mp hb
  rfl
/-- len(x) == n, n told -/
theorem ev_lenEq {d : PyData} {n m : Int} (h : EvD C te Γ d) (hc : CbOk C.K (fun xs H Q => ∃ x n, xs = [x] ∧ LenV C.K x H n ∧ Q (.int n) H) [d] fun w => w = .int n) (h2 : EvD C tb Γ (.int m)) (e : n = m) :
    EvD C (tOp rEq (tCB (fun xs H Q => ∃ x n, xs = [x] ∧ LenV C.K x H n ∧ Q (.int n) H) (tCons te tNil)) tb) Γ (.bool true) :=
  EvD.of (ev_op (ev_cb (ea_cons h ea_nil) hc) h2 oo_eqI) (by rw [decide_eq_true e])
theorem ev_lenNe {d : PyData} {n m : Int} (h : EvD C te Γ d) (hc : CbOk C.K (fun xs H Q => ∃ x n, xs = [x] ∧ LenV C.K x H n ∧ Q (.int n) H) [d] fun w => w = .int n) (h2 : EvD C tb Γ (.int m)) (e : n = m) :
    EvD C (tOp rNe (tCB (fun xs H Q => ∃ x n, xs = [x] ∧ LenV C.K x H n ∧ Q (.int n) H) (tCons te tNil)) tb) Γ (.bool false) :=
  EvD.of (ev_op (ev_cb (ea_cons h ea_nil) hc) h2 oo_neI) (by rw [decide_eq_true e]; rfl)
/-- lo <= len(x) <= hi -/
theorem ev_lenIn {d : PyData} {n lo hi : Int} {tl th : TE} (h : EvD C te Γ d) (hc : CbOk C.K (fun xs H Q => ∃ x n, xs = [x] ∧ LenV C.K x H n ∧ Q (.int n) H) [d] fun w => w = .int n) (h1 : EvD C tl Γ (.int lo)) (h2 : EvD C th Γ (.int hi)) (e1 : lo ≤ n) (e2 : n ≤ hi) :
    EvD C (tChain (rI0 fun i j => .bl (decide (i ≤ j))) (rI0 fun i j => .bl (decide (i ≤ j))) tl (tCB (fun xs H Q => ∃ x n, xs = [x] ∧ LenV C.K x H n ∧ Q (.int n) H) (tCons te tNil)) th) Γ (.bool true) := by
  have o1 : OpD C.K (rI0 fun i j => .bl (decide (i ≤ j))) (.int lo) (.int n) (.bool (decide (lo ≤ n))) := oo_b
  have o2 : OpD C.K (rI0 fun i j => .bl (decide (i ≤ j))) (.int n) (.int hi) (.bool (decide (n ≤ hi))) := oo_b
  rw [decide_eq_true e1] at o1
  rw [decide_eq_true e2] at o2
  exact ev_chain h1 (ev_cb (ea_cons h ea_nil) hc) h2 o1 o2
end
end SN

namespace SN
open PySem L2
section
variable {P : Program} {w : World} {K : PySem.W.Frag} {mg : Str → Option Value} {base : Heap} {f : Addr} {fd : FuncData}
abbrev N_is_whole : List Str := ["thing"]
abbrev P_is_whole : List Str := ["thing"]
theorem sc_is_whole : FnScope N_is_whole P_is_whole (defScope (topS 15)) := ⟨rfl, rfl, rfl, by decide +kernel, rfl, by decide +kernel, by decide +kernel⟩
def R_is_whole (ds : List PyData) (z : PyData) : Prop := ∃ n, ds = [.int n] ∧ z = .bool true
theorem ok_is_whole (T : Tx w K mg) (F : FnP K "is_whole" 15 [] f fd) : FnOk P w K mg base CX0 1 f fd P_is_whole (pureSp K R_is_whole) := by
  have nd := sc_is_whole.nd
  refine pure_fn F sc_is_whole (fun ds z ⟨n, e, _⟩ => e ▸ rfl) fun cdv A outer s H E hr => ⟨_, (pss_one (ps_ret (pe_and (pe_callB call_isi (by rfl) T.isinstance (by decide +kernel) (pa_cons (pv 0) (pa_cons (pe_bltn (v := .ty "int") (by rfl) T.int (by decide +kernel) rfl) pa_nil))) (pe_one (pe_not (pe_callB call_isi (by rfl) T.isinstance (by decide +kernel) (pa_cons (pv 0) (pa_cons (pe_bltn (v := .ty "bool") (by rfl) T.bool (by decide +kernel) rfl) pa_nil)))))))), fun G H ds z Q hR q => ?_⟩
  obtain ⟨n, rfl, rfl⟩ := hR
  refine nx_out ?_ q
  exact ev_andT (ev_isi (ev_var rfl) ki_ii) (ev_notV (b := false) (ev_isi (ev_var rfl) ki_ib))

abbrev N_is_letter : List Str := ["thing"]
abbrev P_is_letter : List Str := ["thing"]
theorem sc_is_letter : FnScope N_is_letter P_is_letter (defScope (topS 16)) := ⟨rfl, rfl, rfl, by decide +kernel, rfl, by decide +kernel, by decide +kernel⟩
def R_is_letter (ds : List PyData) (z : PyData) : Prop := ∃ s, ds = [.str s] ∧ IsLet s ∧ z = .bool true
theorem ok_is_letter (T : Tx w K mg) (F : FnP K "is_letter" 16 [] f fd) : FnOk P w K mg base CX0 1 f fd P_is_letter (pureSp K R_is_letter) := by
  have nd := sc_is_letter.nd
  refine pure_fn F sc_is_letter (fun ds z ⟨n, e, _⟩ => e ▸ rfl) fun cdv A outer s H E hr => ⟨_, (pss_one (ps_ret (pe_and (pe_callB call_isi (by rfl) T.isinstance (by decide +kernel) (pa_cons (pv 0) (pa_cons (pe_bltn (v := .ty "str") (by rfl) T.str (by decide +kernel) rfl) pa_nil))) (pe_and (pe_cmpR op_eq (pe_callB call_len (by rfl) T.len (by decide +kernel) (pa_cons (pv 0) pa_nil)) pe_int (nomark _)) (pe_one (pe_cmpR op_in_sign (pv 0) (gstr T.gSIGNS) (by rfl))))))), fun G H ds z Q hR q => ?_⟩
  obtain ⟨_, rfl, ⟨c, rfl, hc⟩, rfl⟩ := hR
  refine nx_out ?_ q
  exact ev_andT (ev_isi (ev_var rfl) ki_ss) (ev_andT (ev_lenEq (ev_var rfl) (cb_lenS (by show 1 ≤ 1000; decide)) ev_int rfl)
    (EvD.of (ev_op (ev_var rfl) ev_str oo_inSign) (congrArg PyData.bool (decide_eq_true hc))))

abbrev N_is_name : List Str := ["thing", "sign"]
abbrev P_is_name : List Str := ["thing"]
theorem sc_is_name : FnScope N_is_name P_is_name (defScope (topS 17)) := ⟨rfl, rfl, rfl, by decide +kernel, rfl, by decide +kernel, by decide +kernel⟩
def R_is_name (ds : List PyData) (z : PyData) : Prop := ∃ s, ds = [.str s] ∧ IsName s ∧ z = .bool true
theorem ok_is_name (T : Tx w K mg) (F : FnP K "is_name" 17 [] f fd) (Dis_letter : Kd P w K mg base "is_letter" P_is_letter (pureSp K R_is_letter) 1) : FnOk P w K mg base CX0 2 f fd P_is_name (pureSp K R_is_name) := by
  have nd := sc_is_name.nd
  refine pure_fn F sc_is_name (fun ds z ⟨n, e, _⟩ => e ▸ rfl) fun cdv A outer s H E hr => ⟨_, (pss_one (ps_ret (pe_and (pe_callB call_isi (by rfl) T.isinstance (by decide +kernel) (pa_cons (pv 0) (pa_cons (pe_bltn (v := .ty "str") (by rfl) T.str (by decide +kernel) rfl) pa_nil))) (pe_and (pe_chain op_le op_le pe_int (pe_callB call_len (by rfl) T.len (by decide +kernel) (pa_cons (pv 0) pa_nil)) (gint T.gMOST_SIGNS)) (pe_one (pe_callB (cr_all rfl) (by rfl) T.all (by decide +kernel) (pa_cons (pe_lc (own := [("sign", 1)]) (g := gName 1) (tt := tYes) rfl nd (pi_str (pv 0)) (blkOk_by (N := N_is_name) (sc := defScope (topS 17)) (by decide +kernel)) (fun _ _ _ _ _ => (pg_name (i := 1) nd rfl (Or.inl rfl))) (fun _ _ _ _ _ => pts_nil) (fun _ _ _ _ _ => (pe_df Dis_letter (hr.mono (by decide)) (by rfl) (pa_cons (pv 1) pa_nil)))) pa_nil))))))), fun G H ds z Q hR q => ?_⟩
  obtain ⟨s, rfl, ⟨h1, h2, h3⟩, rfl⟩ := hR
  refine nx_out ?_ q
  exact ev_andT (ev_isi (ev_var rfl) ki_ss) (ev_andT (ev_lenIn (ev_var rfl) (cb_lenS (by omega)) ev_int ev_int (by omega) (by omega))
    (ev_all (ev_lc (fun _ => .bool true) (wk_str (ev_var rfl)) (by rw [sgn_len]; omega) fun x hx => ⟨_, tg_name (by decide), ev_call (ea_cons (ev_var rfl) ea_nil) ⟨x, rfl, sgn_let h3 x hx, rfl⟩⟩)))

abbrev N_is_list_of : List Str := ["thing", "most"]
abbrev P_is_list_of : List Str := ["thing", "most"]
theorem sc_is_list_of : FnScope N_is_list_of P_is_list_of (defScope (topS 18)) := ⟨rfl, rfl, rfl, by decide +kernel, rfl, by decide +kernel, by decide +kernel⟩
def R_is_list_of (ds : List PyData) (z : PyData) : Prop := ∃ xs n, ds = [.list xs, .int n] ∧ 1 ≤ xs.length ∧ (xs.length : Int) ≤ n ∧ z = .bool true
theorem ok_is_list_of (T : Tx w K mg) (F : FnP K "is_list_of" 18 [] f fd) : FnOk P w K mg base CX0 1 f fd P_is_list_of (pureSp K R_is_list_of) := by
  have nd := sc_is_list_of.nd
  refine pure_fn F sc_is_list_of (fun ds z ⟨_, _, e, _⟩ => e ▸ rfl) fun cdv A outer s H E hr => ⟨_, (pss_one (ps_ret (pe_and (pe_callB call_isi (by rfl) T.isinstance (by decide +kernel) (pa_cons (pv 0) (pa_cons (pe_bltn (v := .ty "list") (by rfl) T.list (by decide +kernel) rfl) pa_nil))) (pe_one (pe_chain op_le op_le pe_int (pe_callB call_len (by rfl) T.len (by decide +kernel) (pa_cons (pv 0) pa_nil)) (pv 1)))))), fun G H ds z Q hR q => ?_⟩
  obtain ⟨xs, n, rfl, h1, h2, rfl⟩ := hR
  refine nx_out ?_ q
  exact ev_andT (ev_isi (ev_var rfl) ki_ll) (ev_lenIn (ev_var rfl) cb_lenL ev_int (ev_var rfl) (by omega) h2)

abbrev N_is_pair : List Str := ["thing"]
abbrev P_is_pair : List Str := ["thing"]
theorem sc_is_pair : FnScope N_is_pair P_is_pair (defScope (topS 19)) := ⟨rfl, rfl, rfl, by decide +kernel, rfl, by decide +kernel, by decide +kernel⟩
def R_is_pair (ds : List PyData) (z : PyData) : Prop := ∃ xs, ds = [.tuple xs] ∧ xs.length = 2 ∧ z = .bool true
theorem ok_is_pair (T : Tx w K mg) (F : FnP K "is_pair" 19 [] f fd) : FnOk P w K mg base CX0 1 f fd P_is_pair (pureSp K R_is_pair) := by
  have nd := sc_is_pair.nd
  refine pure_fn F sc_is_pair (fun ds z ⟨_, e, _⟩ => e ▸ rfl) fun cdv A outer s H E hr => ⟨_, (pss_one (ps_ret (pe_and (pe_callB call_isi (by rfl) T.isinstance (by decide +kernel) (pa_cons (pv 0) (pa_cons (pe_bltn (v := .ty "tuple") (by rfl) T.tuple (by decide +kernel) rfl) pa_nil))) (pe_one (pe_cmpR op_eq (pe_callB call_len (by rfl) T.len (by decide +kernel) (pa_cons (pv 0) pa_nil)) pe_int (nomark _)))))), fun G H ds z Q hR q => ?_⟩
  obtain ⟨xs, rfl, h1, rfl⟩ := hR
  refine nx_out ?_ q
  exact ev_andT (ev_isi (ev_var rfl) ki_tt) (ev_lenEq (ev_var rfl) cb_lenT ev_int (by rw [h1]; rfl))

abbrev N_dealing_copied : List Str := ["dealing", "name", "letters", "steps"]
abbrev P_dealing_copied : List Str := ["dealing"]
theorem sc_dealing_copied : FnScope N_dealing_copied P_dealing_copied (defScope (topS 24)) := ⟨rfl, rfl, rfl, by decide +kernel, rfl, by decide +kernel, by decide +kernel⟩
def R_dealing_copied (ds : List PyData) (z : PyData) : Prop := ∃ d, ds = [eD d] ∧ z = eD d
theorem ok_dealing_copied (T : Tx w K mg) (F : FnP K "dealing_copied" 24 [] f fd) : FnOk P w K mg base CX0 1 f fd P_dealing_copied (pureSp K R_dealing_copied) := by
  have nd := sc_dealing_copied.nd
  refine pure_fn F sc_dealing_copied (fun ds z ⟨_, e, _⟩ => e ▸ rfl) fun cdv A outer s H E hr => ⟨_, (pss_cons (ps_asg (pv 0) (pg_tup rfl (pgs_cons (pg_name (i := 1) nd rfl (Or.inl rfl)) (pgs_cons (pg_name (i := 2) nd rfl (Or.inl rfl)) (pgs_cons (pg_name (i := 3) nd rfl (Or.inl rfl)) pgs_nil)))))
      (pss_one (ps_ret (pe_tup (pa_cons (pv 1) (pa_cons (pe_callTy call_list_of (by rfl) T.list (by decide +kernel) (pa_cons (pv 2) pa_nil)) (pa_cons (pe_callTy call_list_of (by rfl) T.list (by decide +kernel) (pa_cons (pv 3) pa_nil)) pa_nil))))))), fun G H ds z Q hR q => ?_⟩
  obtain ⟨d, rfl, rfl⟩ := hR
  refine nx_seq (nx_unp3 (ev_var rfl) ?_)
  refine nx_out ?_ q
  exact ev_tup (ea_cons (ev_var rfl) (ea_cons (ev_cb (ea_cons (ev_var rfl) ea_nil) cb_list) (ea_cons (ev_cb (ea_cons (ev_var rfl) ea_nil) cb_list) ea_nil))) (by show 3 ≤ 1000; decide)

abbrev N_book_copied : List Str := ["book", "dealing"]
abbrev P_book_copied : List Str := ["book"]
theorem sc_book_copied : FnScope N_book_copied P_book_copied (defScope (topS 25)) := ⟨rfl, rfl, rfl, by decide +kernel, rfl, by decide +kernel, by decide +kernel⟩
def R_book_copied (ds : List PyData) (z : PyData) : Prop := ∃ b : Book, ds = [eB b] ∧ b.2.length ≤ 1000 ∧ z = eB b
theorem ok_book_copied (T : Tx w K mg) (F : FnP K "book_copied" 25 [] f fd) (Ddealing_copied : Kd P w K mg base "dealing_copied" P_dealing_copied (pureSp K R_dealing_copied) 1) : FnOk P w K mg base CX0 2 f fd P_book_copied (pureSp K R_book_copied) := by
  have nd := sc_book_copied.nd
  refine pure_fn F sc_book_copied (fun ds z ⟨_, e, _⟩ => e ▸ rfl) fun cdv A outer s H E hr => ⟨_, (pss_one (ps_ret (pe_tup (pa_cons (pe_callTy call_list_of (by rfl) T.list (by decide +kernel) (pa_cons (pe_ix ix_tup (pv 0) pe_int (fun _ _ => rfl)) pa_nil)) (pa_cons (pe_lc (own := [("dealing", 1)]) (g := gName 1) (tt := tYes) rfl nd (pi_list (pe_ix ix_tup (pv 0) pe_int (fun _ _ => rfl))) (blkOk_by (N := N_book_copied) (sc := defScope (topS 25)) (by decide +kernel)) (fun _ _ _ _ _ => (pg_name (i := 1) nd rfl (Or.inl rfl))) (fun _ _ _ _ _ => pts_nil) (fun _ _ _ _ _ => (pe_df Ddealing_copied (hr.mono (by decide)) (by rfl) (pa_cons (pv 1) pa_nil)))) pa_nil))))), fun G H ds z Q hR q => ?_⟩
  obtain ⟨b, rfl, hl, rfl⟩ := hR
  refine nx_out ?_ q
  exact ev_tup (ea_cons (ev_cb (ea_cons (ev_op (ev_var rfl) ev_int (oo_ixT rfl)) ea_nil) cb_list) (ea_cons
    (ev_lc eD (wk_list (ev_op (ev_var rfl) ev_int (oo_ixT rfl))) hl fun x hx => ⟨_, tg_name (by decide), ev_call (ea_cons (ev_var rfl) ea_nil) ⟨x, rfl, rfl⟩⟩) ea_nil)) (by show 2 ≤ 1000; decide)
end
end SN

/-! SN: zip of a list and a text, zip of three lists. -/
namespace SN
open PySem L2
/-- a list's items and a text's signs, in new pairs -/
def ItS (a : Addr) (y : Str) : It :=
  ⟨fun i H => i < y.cps.size ∧ ∃ xs u, H a = some (.lst xs) ∧ xs[i]? = some u,
    fun i H v H' => ∃ T u c, v = .ref T ∧ H T = none ∧ H' = upd H T (.tup [u, .str ⟨#[c]⟩]) ∧ (∀ xs, H a = some (.lst xs) → xs[i]? = some u) ∧ y.cps[i]? = some c,
    fun i H => i = y.cps.size ∧ ∃ xs, H a = some (.lst xs) ∧ xs.length = i⟩
theorem sz2 : [V.non, V.non].length ≤ sizeLine := by show 2 ≤ sizeLine; decide
theorem sz3 : [V.non, V.non, V.non].length ≤ sizeLine := by show 3 ≤ sizeLine; decide
theorem isL_of {X : Cx} {pins : List (Addr × Obj)} {σ : St} {H : Hp} {s : Shared} {a : Addr} {xs : List V} (I : Inv X pins σ H s) (h : H a = some (.lst xs)) : ∃ its : List Value, Vals xs its ∧ s.heap.IsList a its.toArray := by
  obtain ⟨its, r, p, _⟩ := I.list (.of h)
  exact ⟨its, r, p.isList⟩
theorem vals_at {xs : List V} {its : List Value} {i : Nat} {u : V} {x : Value} (r : Vals xs its) (hx : xs[i]? = some u) (hv : its.toArray[i]? = some x) : RelV u x := by
  obtain ⟨x', h1, h2⟩ := r.get hx
  have h3 : its.toArray[i]? = some x' := by simpa using h1
  rw [hv] at h3
  cases h3
  exact h2
theorem lst_same {H : Hp} {a : Addr} {xs ys : List V} (h : H a = some (.lst xs)) (h' : H a = some (.lst ys)) : xs = ys := by
  rw [h] at h'
  cases h'
  rfl
theorem turnS {P : Program} {w : World} {K : PySem.W.Frag} {elts : List Expr} {kk : Nat} {tpos : Pos} {a z TI TO i1 i2 : Addr} {y : Str} {t : Tok} (S : ZipSep2 z TI TO i1 i2 [i1, a] [i2]) :
    Turn P w K (.Tuple elts kk tpos) (ItS a y) [z, TI, TO, i1, i2] z (fun i h => IsZip h z TI TO .none ∧ IsTupOf2 h TI (.ref i1) (.ref i2) ∧ (∃ u v, IsTupOf2 h TO u v) ∧ h.IsListIter i1 a i ∧ h.IsStrIter i2 (strIterType y) y t i) where
  mem := List.mem_cons_self ..
  obj := fun i h ⟨q1, q2, ⟨u, v, q3⟩, ⟨o1, e1, _, d1⟩, ⟨o2, e2, _, d2⟩⟩ c hc => by
    simp only [List.mem_cons, List.not_mem_nil, or_false] at hc
    rcases hc with rfl | rfl | rfl | rfl | rfl
    · exact ⟨_, q1, fun _ q => nomatch q⟩
    · exact ⟨_, q2, fun _ q => nomatch q⟩
    · exact ⟨_, q3, fun _ q => nomatch q⟩
    · exact ⟨o1, e1, fun _ q => by rw [d1] at q; cases q⟩
    · exact ⟨o2, e2, fun _ q => by rw [d2] at q; cases q⟩
  keep := fun i h h' ⟨q1, q2, ⟨u, v, q3⟩, ⟨o1, e1, r1⟩, ⟨o2, e2, r2⟩⟩ k =>
    ⟨k _ (by simp) _ q1, k _ (by simp) _ q2, ⟨u, v, k _ (by simp) _ q3⟩, ⟨o1, k _ (by simp) _ e1, r1⟩, ⟨o2, k _ (by simp) _ e2, r2⟩⟩
  item := by
    rintro X rfl rfl rfl hc i pins s σ H E I hf ⟨q1, q2, ⟨u0, v0, q3⟩, q4, q5⟩ ⟨hlt, xs, u, ha, hu⟩
    obtain ⟨its, rv, hl⟩ := isL_of I ha
    have hh : X.A.in1.handled = none := I.ok.hd hc
    have nai : a ≠ i1 := ne_of_none ha (hf i1 (by simp)).1
    have D1 := Draws.list (prog := X.prog) (w := X.w) hh i1 a nai its.toArray
    have D2 := Draws.text (prog := X.prog) (w := X.w) hh i2 y t
    have hsz : i < its.toArray.size := by
      have h1 := (List.getElem?_eq_some_iff.mp hu).1
      rw [rv.length] at h1
      simpa using h1
    have zlt : z < s.heap.objs.size := Heap.lt_size q1
    refine wpAny_pyNext_zipD2_item S D1 D2 q1 q2 q3 ⟨q4, hl⟩ q5 hsz hlt fun x1 x2 h' tk p1 p2 b1 b2 b3 b4 b5 _ hk => ⟨_, rfl, wpAny_letOwnedTupleGo_zip (s := { s with heap := h', toks := tk }) b1 fun g gz sb => ?_⟩
    obtain ⟨c, tc, hcs, rfl⟩ := p2
    have gT : g.get? s.heap.objs.size = some { cls := .type "tuple", data := .seq #[x1, .str ⟨#[c]⟩ tc] } := (sb.2 _ (Nat.ne_of_gt zlt)).trans b5
    have nw : ObjOk X.prog X.w (upd H s.heap.objs.size (.tup [u, .str ⟨#[c]⟩])) g s.heap.objs.size (.tup [u, .str ⟨#[c]⟩]) :=
      ⟨sz2, [x1, .str ⟨#[c]⟩ tc], .cons (vals_at rv hu p1) (.cons ⟨tc, rfl⟩ .nil), ⟨_, gT, rfl, _, rfl⟩⟩
    have I2 := I.turnedNew (t' := tk) (ch := [z, TI, TO, i1, i2]) (fun b o nb e => by
      simp only [List.mem_cons, List.not_mem_nil, or_false, not_or] at nb
      exact (sb.2 b nb.1).trans (hk b o nb.1 nb.2.2.1 nb.2.2.2.1 nb.2.2.2.2 e)) hf (Nat.le_refl _) nw
    have lv : ∀ {b o}, s.heap.get? b = some o → s.heap.objs.size ≠ b := fun e => Nat.ne_of_gt (Heap.lt_size e)
    refine ⟨.ref s.heap.objs.size, _, I2, rfl, ⟨_, u, c, rfl, I.hok.fresh (Nat.le_refl _), rfl, fun ys hy => by rw [lst_same hy ha]; exact hu, hcs⟩, ⟨gz, ?_, ⟨x1, .str ⟨#[c]⟩ tc, (sb.2 _ S.TOz).trans b2⟩, ?_, ?_⟩, fun b hb => ?_⟩
    · exact (sb.2 _ S.TIz).trans (hk _ _ S.TIz S.TITO S.TIi1 S.TIi2 q2)
    · exact D1.over b3 sb S.zf1 |>.1
    · exact D2.over b4 sb S.zf2
    · have hlt' : b < s.heap.objs.size := by
        simp only [List.mem_cons, List.not_mem_nil, or_false] at hb
        rcases hb with rfl | rfl | rfl | rfl | rfl
        · exact zlt
        · exact Heap.lt_size q2
        · exact Heap.lt_size q3
        · obtain ⟨_, e, _⟩ := q4; exact Heap.lt_size e
        · obtain ⟨_, e, _⟩ := q5; exact Heap.lt_size e
      rw [upd_ne (Nat.ne_of_lt hlt')]
      exact (hf b hb).1
  done := by
    rintro X rfl rfl rfl hc i pins s σ H E I hf ⟨q1, q2, ⟨u0, v0, q3⟩, q4, q5⟩ ⟨rfl, xs, ha, hx⟩
    obtain ⟨its, rv, hl⟩ := isL_of I ha
    have hh : X.A.in1.handled = none := I.ok.hd hc
    have nai : a ≠ i1 := ne_of_none ha (hf i1 (by simp)).1
    have D1 := Draws.list (prog := X.prog) (w := X.w) hh i1 a nai its.toArray
    have D2 := Draws.text (prog := X.prog) (w := X.w) hh i2 y t
    have hsz : its.toArray.size = y.cps.size := by
      have h1 := rv.length
      simp only [List.size_toArray]
      omega
    exact wpAny_pyNext_zipD2_end S D1 D2 q1 q2 q3 ⟨q4, hl⟩ q5 (by omega) (Nat.le_refl _) (.inr rfl) fun h' tk hk => ⟨rfl, I.turnedL (t' := tk) (ch := [z, TI, TO, i1, i2]) (fun b o nb e => by
      simp only [List.mem_cons, List.not_mem_nil, or_false, not_or] at nb
      exact hk b o nb.1 nb.2.2.1 nb.2.2.2.1 nb.2.2.2.2 e) hf⟩
  self := fun A i s Q E st h => wpAny_pyIter_zip st.1 h
def iZipS (ta : TA) : TI := fun σ H R => ta σ H fun vs H1 => ∃ a y xs, vs = [.ref a, .str y] ∧ H1 a = some (.lst xs) ∧ R (ItS a y) H1
theorem ne5 {n a : Nat} (h : a < n) : (n + 2 ≠ n + 4 ∧ n + 3 ≠ n + 4 ∧ n + 2 ≠ n + 3 ∧ n + 2 ≠ n ∧ n + 4 ≠ n ∧ n + 3 ≠ n ∧ n + 2 ≠ n + 1 ∧ n + 4 ≠ n + 1 ∧ n + 3 ≠ n + 1 ∧ n ≠ n + 1) ∧ (n + 2 ≠ a ∧ n + 4 ≠ a ∧ n + 3 ≠ a ∧ n + 1 ≠ a ∧ n ≠ a) := by omega
theorem sepS {n a : Nat} (h : a < n) : ZipSep2 (n + 4) (n + 2) (n + 3) n (n + 1) [n, a] [n + 1] := by
  obtain ⟨⟨h1, h2, h3, h4, h5, h6, h7, h8, h9, h10⟩, g1, g2, g3, g4, g5⟩ := ne5 h
  exact ⟨h1, h2, h3, h4, by simp, by simp only [List.mem_cons, List.not_mem_nil, or_false, not_or]; exact ⟨h5, g2⟩, by simp only [List.mem_cons, List.not_mem_nil, or_false, not_or]; exact ⟨h6, g3⟩,
    h7, by simp, by simp only [List.mem_cons, List.not_mem_nil, or_false]; exact h8, by simp only [List.mem_cons, List.not_mem_nil, or_false]; exact h9,
    by simp only [List.mem_cons, List.not_mem_nil, or_false]; exact h10, by simp only [List.mem_cons, List.not_mem_nil, or_false, not_or]; exact ⟨h10.symm, g4⟩⟩
theorem fp_new {X : Cx} {pins : List (Addr × Obj)} {σ : St} {H : Hp} {s : Shared} (I : Inv X pins σ H s) (ks : List Nat) : ∀ b ∈ ks.map (s.heap.objs.size + ·), FpOk X pins H b := fun b hb => by
  obtain ⟨k, _, rfl⟩ := List.mem_map.mp hb
  have hle : s.heap.objs.size ≤ s.heap.objs.size + k := Nat.le_add_right _ _
  exact I.fpOk hle (I.hok.fresh hle)
theorem pi_zipS {X : Cx} {e e2 : Expr} {ta : TA} {p pos tpos : Pos} {elts : List Expr} {kk : Nat} (hg : Gl X "zip") (hm : X.mg "zip" = none) (ha : PA X [e, e2] ta)
    (q1 : starEach [e, e2] X.env = (false, eval e X.env) :: starEach [e2] X.env := by rfl) (q2 : (backTo pos (starEach [e2] X.env)).any (·.1) = false := by rfl) :
    PI X (.Tuple elts kk tpos) (.Call (.Name "zip" p) [e, e2] [] pos) (iZipS ta) := by
  refine ⟨fun pins s σ H R I h => ?_⟩
  refine PyProof.Rows.Call_ (ld_blt I hg hm PyProof.Rows.boot_zip (PyProof.Rows.callWith_type1 (thn (ha.run pos pins s σ H _ I h) fun us s1 ⟨vs, H1, I1, r1, a, y, xs, ev, hl, q⟩ => ?_) q1 q2))
  subst ev
  cases r1 with
  | cons r r1 =>
    cases r1 with
    | cons r' r1 =>
      cases r1
      cases r
      obtain ⟨t, rfl⟩ := r'
      obtain ⟨its, rv, hL⟩ := isL_of I1 hl
      have alt : a < s1.heap.objs.size := by obtain ⟨_, e, _⟩ := hL; exact Heap.lt_size e
      refine zip_begins2 (begins_list a its.toArray) (begins_text y t) hL trivial fun g z1 z2 z3 z4 z5 _ hk => wpAny_pyIter_zip z1 ?_
      have I2 : Inv X pins σ H1 { s1 with heap := g } := I1.kept (t' := s1.toks) hk
      refine ⟨s1.heap.objs.size + 4, [s1.heap.objs.size + 4, s1.heap.objs.size + 2, s1.heap.objs.size + 3, s1.heap.objs.size, s1.heap.objs.size + 1], _, _, H1, rfl, I2, turnS (y := y) (t := t) (sepS alt), ⟨z1, z2, ⟨_, _, z3⟩, ⟨_, z4, rfl, rfl⟩, ⟨_, z5, rfl, rfl⟩⟩, ?_, q⟩
      exact fp_new I1 [4, 2, 3, 0, 1]

/-! ### three lists -/
def It3 (a b c : Addr) : It :=
  ⟨fun i H => ∃ xs ys zs u v w, H a = some (.lst xs) ∧ H b = some (.lst ys) ∧ H c = some (.lst zs) ∧ xs[i]? = some u ∧ ys[i]? = some v ∧ zs[i]? = some w,
    fun i H x H' => ∃ T u v w, x = .ref T ∧ H T = none ∧ H' = upd H T (.tup [u, v, w]) ∧ (∀ xs, H a = some (.lst xs) → xs[i]? = some u) ∧ (∀ xs, H b = some (.lst xs) → xs[i]? = some v) ∧ ∀ xs, H c = some (.lst xs) → xs[i]? = some w,
    fun i H => ∃ xs ys zs, H a = some (.lst xs) ∧ H b = some (.lst ys) ∧ H c = some (.lst zs) ∧ xs.length = i ∧ ys.length = i ∧ zs.length = i⟩
theorem turn3 {P : Program} {w : World} {K : PySem.W.Frag} {elts : List Expr} {kk : Nat} {tpos : Pos} {a b c z TI TO i1 i2 i3 : Addr} (S : ZipSep3 z TI TO i1 i2 i3 [i1, a] [i2, b] [i3, c]) :
    Turn P w K (.Tuple elts kk tpos) (It3 a b c) [z, TI, TO, i1, i2, i3] z (fun i h => IsZip h z TI TO .none ∧ IsTupOf3 h TI (.ref i1) (.ref i2) (.ref i3) ∧ (∃ u v w, IsTupOf3 h TO u v w) ∧ h.IsListIter i1 a i ∧ h.IsListIter i2 b i ∧ h.IsListIter i3 c i) where
  mem := List.mem_cons_self ..
  obj := fun i h ⟨q1, q2, ⟨u, v, w, q3⟩, ⟨o1, e1, _, d1⟩, ⟨o2, e2, _, d2⟩, ⟨o3, e3, _, d3⟩⟩ x hx => by
    simp only [List.mem_cons, List.not_mem_nil, or_false] at hx
    rcases hx with rfl | rfl | rfl | rfl | rfl | rfl
    · exact ⟨_, q1, fun _ q => nomatch q⟩
    · exact ⟨_, q2, fun _ q => nomatch q⟩
    · exact ⟨_, q3, fun _ q => nomatch q⟩
    · exact ⟨o1, e1, fun _ q => by rw [d1] at q; cases q⟩
    · exact ⟨o2, e2, fun _ q => by rw [d2] at q; cases q⟩
    · exact ⟨o3, e3, fun _ q => by rw [d3] at q; cases q⟩
  keep := fun i h h' ⟨q1, q2, ⟨u, v, w, q3⟩, ⟨o1, e1, r1⟩, ⟨o2, e2, r2⟩, ⟨o3, e3, r3⟩⟩ k =>
    ⟨k _ (by simp) _ q1, k _ (by simp) _ q2, ⟨u, v, w, k _ (by simp) _ q3⟩, ⟨o1, k _ (by simp) _ e1, r1⟩, ⟨o2, k _ (by simp) _ e2, r2⟩, ⟨o3, k _ (by simp) _ e3, r3⟩⟩
  item := by
    rintro X rfl rfl rfl hc i pins s σ H E I hf ⟨q1, q2, ⟨u0, v0, w0, q3⟩, q4, q5, q6⟩ ⟨xs, ys, zs, u, v, w, ha, hb, hcc, hu, hv, hw⟩
    obtain ⟨is1, rv1, hl1⟩ := isL_of I ha
    obtain ⟨is2, rv2, hl2⟩ := isL_of I hb
    obtain ⟨is3, rv3, hl3⟩ := isL_of I hcc
    have hh : X.A.in1.handled = none := I.ok.hd hc
    have D1 := Draws.list (prog := X.prog) (w := X.w) hh i1 a (ne_of_none ha (hf i1 (by simp)).1) is1.toArray
    have D2 := Draws.list (prog := X.prog) (w := X.w) hh i2 b (ne_of_none hb (hf i2 (by simp)).1) is2.toArray
    have D3 := Draws.list (prog := X.prog) (w := X.w) hh i3 c (ne_of_none hcc (hf i3 (by simp)).1) is3.toArray
    have lt_of : ∀ {us : List V} {is : List Value} {k : V}, Vals us is → us[i]? = some k → i < is.toArray.size := fun r e => by
      have h1 := (List.getElem?_eq_some_iff.mp e).1
      rw [r.length] at h1
      simpa using h1
    have zlt : z < s.heap.objs.size := Heap.lt_size q1
    refine wpAny_pyNext_zipD3_item S D1 D2 D3 q1 q2 q3 ⟨q4, hl1⟩ ⟨q5, hl2⟩ ⟨q6, hl3⟩ (lt_of rv1 hu) (lt_of rv2 hv) (lt_of rv3 hw) fun x1 x2 x3 h' tk p1 p2 p3 b1 b2 b3 b4 b5 b6 _ hk =>
      ⟨_, rfl, wpAny_letOwnedTupleGo_zip (s := { s with heap := h', toks := tk }) b1 fun g gz sb => ?_⟩
    have gT : g.get? s.heap.objs.size = some { cls := .type "tuple", data := .seq #[x1, x2, x3] } := (sb.2 _ (Nat.ne_of_gt zlt)).trans b6
    have nw : ObjOk X.prog X.w (upd H s.heap.objs.size (.tup [u, v, w])) g s.heap.objs.size (.tup [u, v, w]) :=
      ⟨sz3, [x1, x2, x3], .cons (vals_at rv1 hu p1) (.cons (vals_at rv2 hv p2) (.cons (vals_at rv3 hw p3) .nil)), ⟨_, gT, rfl, _, rfl⟩⟩
    have I2 := I.turnedNew (t' := tk) (ch := [z, TI, TO, i1, i2, i3]) (fun x o nb e => by
      simp only [List.mem_cons, List.not_mem_nil, or_false, not_or] at nb
      exact (sb.2 x nb.1).trans (hk x o nb.1 nb.2.2.1 nb.2.2.2.1 nb.2.2.2.2.1 nb.2.2.2.2.2 e)) hf (Nat.le_refl _) nw
    refine ⟨.ref s.heap.objs.size, _, I2, rfl, ⟨_, u, v, w, rfl, I.hok.fresh (Nat.le_refl _), rfl, fun l hy => by rw [lst_same hy ha]; exact hu, fun l hy => by rw [lst_same hy hb]; exact hv, fun l hy => by rw [lst_same hy hcc]; exact hw⟩,
      ⟨gz, ?_, ⟨x1, x2, x3, (sb.2 _ S.TOz).trans b2⟩, ?_, ?_, ?_⟩, fun x hx => ?_⟩
    · exact (sb.2 _ S.TIz).trans (hk _ _ S.TIz S.TITO S.TIi1 S.TIi2 S.TIi3 q2)
    · exact D1.over b3 sb S.zf1 |>.1
    · exact D2.over b4 sb S.zf2 |>.1
    · exact D3.over b5 sb S.zf3 |>.1
    · have hlt' : x < s.heap.objs.size := by
        simp only [List.mem_cons, List.not_mem_nil, or_false] at hx
        rcases hx with rfl | rfl | rfl | rfl | rfl | rfl
        · exact zlt
        · exact Heap.lt_size q2
        · exact Heap.lt_size q3
        · obtain ⟨_, e, _⟩ := q4; exact Heap.lt_size e
        · obtain ⟨_, e, _⟩ := q5; exact Heap.lt_size e
        · obtain ⟨_, e, _⟩ := q6; exact Heap.lt_size e
      rw [upd_ne (Nat.ne_of_lt hlt')]
      exact (hf x hx).1
  done := by
    rintro X rfl rfl rfl hc i pins s σ H E I hf ⟨q1, q2, ⟨u0, v0, w0, q3⟩, q4, q5, q6⟩ ⟨xs, ys, zs, ha, hb, hcc, rfl, e2, e3⟩
    obtain ⟨is1, rv1, hl1⟩ := isL_of I ha
    obtain ⟨is2, rv2, hl2⟩ := isL_of I hb
    obtain ⟨is3, rv3, hl3⟩ := isL_of I hcc
    have hh : X.A.in1.handled = none := I.ok.hd hc
    have D1 := Draws.list (prog := X.prog) (w := X.w) hh i1 a (ne_of_none ha (hf i1 (by simp)).1) is1.toArray
    have D2 := Draws.list (prog := X.prog) (w := X.w) hh i2 b (ne_of_none hb (hf i2 (by simp)).1) is2.toArray
    have D3 := Draws.list (prog := X.prog) (w := X.w) hh i3 c (ne_of_none hcc (hf i3 (by simp)).1) is3.toArray
    have l1 := rv1.length
    have l2 := rv2.length
    have l3 := rv3.length
    have m1 : is1.toArray.size = is1.length := List.size_toArray
    have m2 : is2.toArray.size = is2.length := List.size_toArray
    have m3 : is3.toArray.size = is3.length := List.size_toArray
    exact wpAny_pyNext_zipD3_end S D1 D2 D3 q1 q2 q3 ⟨q4, hl1⟩ ⟨q5, hl2⟩ ⟨q6, hl3⟩ (by omega) (by omega) (by omega) (.inl (by omega)) fun h' tk hk => ⟨rfl, I.turnedL (t' := tk) (ch := [z, TI, TO, i1, i2, i3]) (fun x o nb e => by
      simp only [List.mem_cons, List.not_mem_nil, or_false, not_or] at nb
      exact hk x o nb.1 nb.2.2.1 nb.2.2.2.1 nb.2.2.2.2.1 nb.2.2.2.2.2 e) hf⟩
  self := fun A i s Q E st h => wpAny_pyIter_zip st.1 h
def iZip3 (ta : TA) : TI := fun σ H R => ta σ H fun vs H1 => ∃ a b c xs ys zs, vs = [.ref a, .ref b, .ref c] ∧ H1 a = some (.lst xs) ∧ H1 b = some (.lst ys) ∧ H1 c = some (.lst zs) ∧ R (It3 a b c) H1
theorem nm2 {n a b : Nat} (h : n ≠ a) (g : n ≠ b) : n ∉ [a, b] := by
  simp only [List.mem_cons, List.not_mem_nil, or_false, not_or]
  exact ⟨h, g⟩
theorem nn {a b : Nat} (h : a < b ∨ b < a) : a ≠ b := by omega
theorem sep3 {n a b c : Nat} (ha : a < n) (hb : b < n) (hc : c < n) : ZipSep3 (n + 5) (n + 3) (n + 4) n (n + 1) (n + 2) [n, a] [n + 1, b] [n + 2, c] where
  TIz := nn (by omega)
  TOz := nn (by omega)
  TITO := nn (by omega)
  TIi1 := nn (by omega)
  mem1 := by simp
  zf1 := nm2 (nn (by omega)) (nn (by omega))
  Tf1 := nm2 (nn (by omega)) (nn (by omega))
  TIi2 := nn (by omega)
  mem2 := by simp
  zf2 := nm2 (nn (by omega)) (nn (by omega))
  Tf2 := nm2 (nn (by omega)) (nn (by omega))
  TIi3 := nn (by omega)
  mem3 := by simp
  zf3 := nm2 (nn (by omega)) (nn (by omega))
  Tf3 := nm2 (nn (by omega)) (nn (by omega))
  sep1_2 := nm2 (nn (by omega)) (nn (by omega))
  sep1_3 := nm2 (nn (by omega)) (nn (by omega))
  sep2_1 := nm2 (nn (by omega)) (nn (by omega))
  sep2_3 := nm2 (nn (by omega)) (nn (by omega))
  sep3_1 := nm2 (nn (by omega)) (nn (by omega))
  sep3_2 := nm2 (nn (by omega)) (nn (by omega))
theorem pi_zip3 {X : Cx} {e e2 e3 : Expr} {ta : TA} {p pos tpos : Pos} {elts : List Expr} {kk : Nat} (hg : Gl X "zip") (hm : X.mg "zip" = none) (ha : PA X [e, e2, e3] ta)
    (q1 : starEach [e, e2, e3] X.env = (false, eval e X.env) :: starEach [e2, e3] X.env := by rfl) (q2 : (backTo pos (starEach [e2, e3] X.env)).any (·.1) = false := by rfl) :
    PI X (.Tuple elts kk tpos) (.Call (.Name "zip" p) [e, e2, e3] [] pos) (iZip3 ta) := by
  refine ⟨fun pins s σ H R I h => ?_⟩
  refine PyProof.Rows.Call_ (ld_blt I hg hm PyProof.Rows.boot_zip (PyProof.Rows.callWith_type1 (thn (ha.run pos pins s σ H _ I h) fun us s1 ⟨vs, H1, I1, r1, a, b, c, xs, ys, zs, ev, ea, eb, ec, q⟩ => ?_) q1 q2))
  subst ev
  cases r1 with
  | cons r r1 =>
    cases r1 with
    | cons r' r1 =>
      cases r1 with
      | cons r'' r1 =>
        cases r1
        cases r
        cases r'
        cases r''
        obtain ⟨is1, rv1, hl1⟩ := isL_of I1 ea
        obtain ⟨is2, rv2, hl2⟩ := isL_of I1 eb
        obtain ⟨is3, rv3, hl3⟩ := isL_of I1 ec
        have lt : ∀ {x : Addr} {is : Array Value}, s1.heap.IsList x is → x < s1.heap.objs.size := fun h => by obtain ⟨_, e, _⟩ := h; exact Heap.lt_size e
        refine zip_begins3 (begins_list a is1.toArray) (begins_list b is2.toArray) (begins_list c is3.toArray) hl1 hl2 hl3 fun g z1 z2 z3 z4 z5 z6 _ hk => wpAny_pyIter_zip z1 ?_
        have I2 : Inv X pins σ H1 { s1 with heap := g } := I1.kept (t' := s1.toks) hk
        refine ⟨s1.heap.objs.size + 5, [s1.heap.objs.size + 5, s1.heap.objs.size + 3, s1.heap.objs.size + 4, s1.heap.objs.size, s1.heap.objs.size + 1, s1.heap.objs.size + 2], _, _, H1, rfl, I2, turn3 (sep3 (lt hl1) (lt hl2) (lt hl3)), ⟨z1, z2, ⟨_, _, _, z3⟩, ⟨_, z4, rfl, rfl⟩, ⟨_, z5, rfl, rfl⟩, ⟨_, z6, rfl, rfl⟩⟩, ?_, q⟩
        exact fp_new I1 [5, 3, 4, 0, 1, 2]
/-! ### by data -/
section
variable {C : Cn} {Γ : List Sl} {ta : TA}
theorem wk_zipS {ds : List PyData} {y : Str} (h : EvAD C ta Γ [.list ds, .str y]) (hl : ds.length = y.length) : WkD C (iZipS ta) Γ (pairs ds ((sgn y).map .str)) := fun σ G H E R q => h σ G H E _ fun vs zs G1 H1 p f i hv => by
  subst p
  cases hv with
  | cons h1 t =>
    cases t with
    | cons h2 t =>
      cases t
      obtain ⟨a, xs, rfl, ha, hx⟩ := dp_list h1
      have ey := dp_str h2
      subst ey
      have lx := dpa_len hx
      have ly : y.length = y.cps.size := rfl
      have hn : (pairs ds ((sgn y).map .str)).length = y.cps.size := by
        unfold pairs
        rw [List.length_zipWith, List.length_map, sgn_len]
        omega
      refine ⟨a, y, xs, rfl, f.gh _ _ ha, q _ _ G1 H1 rfl f i ⟨fun j H' hj s => ?_, fun H' s => ?_, fun j H' x H'' hj s yy d hd G' s1 s2 => ?_⟩⟩
      · rw [hn] at hj
        exact ⟨hj, xs, xs[j], s _ _ ha, List.getElem?_eq_getElem _⟩
      · exact ⟨hn, xs, s _ _ ha, by omega⟩
      · obtain ⟨T, u, c, rfl, hT, eH, hu, hc⟩ := yy
        obtain ⟨d1, hd1, hq1⟩ := dpa_get' hx (hu xs (s _ _ ha))
        have hs : ((sgn y).map PyData.str)[j]? = some (.str ⟨#[c]⟩) := by
          unfold sgn
          rw [List.getElem?_map, List.getElem?_map, Array.getElem?_toList, hc]
          rfl
        rw [pairs_get hd1 hs] at hd
        cases hd
        exact yd_pair hT eH s1 s2 hq1 (.str _)
def trips (ds es fs : List PyData) : List PyData := ds.zipWith (fun d (p : PyData × PyData) => .tuple [d, p.1, p.2]) (es.zip fs)
theorem trips_get {ds es fs : List PyData} {i : Nat} {d e f : PyData} (h : ds[i]? = some d) (h2 : es[i]? = some e) (h3 : fs[i]? = some f) : (trips ds es fs)[i]? = some (.tuple [d, e, f]) := by
  unfold trips
  have h4 : (es.zip fs)[i]? = some (e, f) := by
    rw [List.getElem?_zip_eq_some]
    exact ⟨h2, h3⟩
  rw [List.getElem?_zipWith, h, h4]
theorem wk_zip3 {ds es fs : List PyData} (h : EvAD C ta Γ [.list ds, .list es, .list fs]) (l1 : es.length = ds.length) (l2 : fs.length = ds.length) : WkD C (iZip3 ta) Γ (trips ds es fs) := fun σ G H E R q => h σ G H E _ fun vs zs G1 H1 p f i hv => by
  subst p
  cases hv with
  | cons h1 t =>
    cases t with
    | cons h2 t =>
      cases t with
      | cons h3 t =>
        cases t
        obtain ⟨a, xs, rfl, ha, hx⟩ := dp_list h1
        obtain ⟨b, ys, rfl, hb, hy⟩ := dp_list h2
        obtain ⟨c, ws, rfl, hc, hw⟩ := dp_list h3
        have lx := dpa_len hx
        have ly := dpa_len hy
        have lw := dpa_len hw
        have hn : (trips ds es fs).length = ds.length := by
          unfold trips
          rw [List.length_zipWith, List.length_zip]
          omega
        refine ⟨a, b, c, xs, ys, ws, rfl, f.gh _ _ ha, f.gh _ _ hb, f.gh _ _ hc, q _ _ G1 H1 rfl f i ⟨fun j H' hj s => ?_, fun H' s => ?_, fun j H' x H'' hj s yy d hd G' s1 s2 => ?_⟩⟩
        · rw [hn] at hj
          exact ⟨xs, ys, ws, _, _, _, s _ _ ha, s _ _ hb, s _ _ hc, List.getElem?_eq_getElem (by omega), List.getElem?_eq_getElem (by omega), List.getElem?_eq_getElem (by omega)⟩
        · exact ⟨xs, ys, ws, s _ _ ha, s _ _ hb, s _ _ hc, by omega, by omega, by omega⟩
        · obtain ⟨T, u, v, w, rfl, hT, eH, hu, hv, hw'⟩ := yy
          obtain ⟨d1, hd1, q1⟩ := dpa_get' hx (hu xs (s _ _ ha))
          obtain ⟨d2, hd2, q2⟩ := dpa_get' hy (hv ys (s _ _ hb))
          obtain ⟨d3, hd3, q3⟩ := dpa_get' hw (hw' ws (s _ _ hc))
          rw [trips_get hd1 hd2 hd3] at hd
          cases hd
          subst eH
          have fr : Fr M0 G' H' (upd G' T (.tup [u, v, w])) (upd H' T (.tup [u, v, w])) := Fr.new s2 hT
          have up := s1.trans fr.gg
          exact ⟨_, fr, .tup upd_same (.cons (Dq.mono up _ _ q1) (.cons (Dq.mono up _ _ q2) (.cons (Dq.mono up _ _ q3) .nil)))⟩
end
end SN

/-! SN: set(..) of unlike texts, and of a text of unlike signs. -/
namespace SN
open PySem PyProof.Rows
section
variable {prog : Program} {w : World} {A : Around} {R : Result → Shared → Prop} {it S : Addr} {fp wr : List Addr} {Gn : Array GenState → Array GenState → Prop} {Pw : Nat → Value → Prop} {Sw : Nat → Shared → Prop}
/-- the loop that fills a set, over unlike texts -/
theorem fillSet (xs : List Str) (nd : xs.Nodup) (hb : xs.length + 1 < scanBound) (W : WalksS prog w A.in1 it fp wr Gn xs.length Pw Sw) (far : S ∉ fp) (txt : ∀ i v, Pw i v → ∃ t, v = .str (xs.getD i Str.empty) t) :
    ∀ (k i : Nat) (s : Shared), i + k = xs.length → Sw i s → s.heap.SetOf (PySem.strKind prog w) S (fun x => decide (x ∈ xs.take i)) i →
      (∀ s2, Moved (S :: wr) Gn s s2 → s2.heap.SetOf (PySem.strKind prog w) S (fun x => decide (x ∈ xs)) xs.length → R (.ok (.ret .none)) s2) →
      codeAny (model prog w) A (.builtin "set.update.loop" ⟨[.ref S, .ref it], []⟩) R s := by
  have nw : S ∉ wr := fun m => far (W.sub S m)
  intro k
  induction k with
  | zero =>
    intro i s e st hS fin
    have hi : i = xs.length := e
    subst hi
    rw [List.take_length] at hS
    refine codeAny_builtin PyProof.Rows.F.entry_set_update_loop ?_
    rw [Around.under_plainId PyProof.Rows.F.plain_set_update_loop _]
    refine wpAny_bind (m := pyNext (.ref it)) (W.done s _ _ st fun s2 mv => wpAny_pure (fin s2 (mv.mono fun b hb => List.mem_cons_of_mem S hb) ?_))
    obtain ⟨o, es, ep, t, ho, r⟩ := hS
    exact ⟨o, es, ep, t, mv.heap S o nw ho, r⟩
  | succ k ih =>
    intro i s e st hS fin
    have lt : i < xs.length := by omega
    refine codeAny_builtin PyProof.Rows.F.entry_set_update_loop ?_
    rw [Around.under_plainId PyProof.Rows.F.plain_set_update_loop _]
    refine wpAny_bind (m := pyNext (.ref it)) (W.item i s _ _ lt st fun v s2 pv st2 mv => ?_)
    obtain ⟨t, rfl⟩ := txt i v pv
    have gi : xs.getD i Str.empty = xs[i] := by
      rw [List.getD_eq_getElem?_getD, List.getElem?_eq_getElem lt]
      rfl
    have hS2 : s2.heap.SetOf (PySem.strKind prog w) S (fun x => decide (x ∈ xs.take i)) i := by
      obtain ⟨o, es, ep, t, ho, r⟩ := hS
      exact ⟨o, es, ep, t, mv.heap S o nw ho, r⟩
    have new : xs[i] ∉ xs.take i := fun m => by
      obtain ⟨j, hj⟩ := List.mem_iff_getElem?.mp m
      rw [List.getElem?_take] at hj
      by_cases hji : j < i
      · rw [if_pos hji] at hj
        have := nd_at nd hj (List.getElem?_eq_getElem lt)
        omega
      · rw [if_neg hji] at hj
        cases hj
    refine wpAny_bind (m := holding _ _) (wpAny_holding ?_)
    unfold setAdd
    refine wpAny_holding (wpAny_bind ((PySem.strKind prog w).pyHash (k := xs.getD i Str.empty) (strKind_is _ _ _ _) ?_))
    refine wpAny_setAddHashed_of (knd := PySem.strKind prog w) (s := { s2 with toks := s2.toks + 1 }) (strKind_is _ _ _ _) rfl hS2 (by omega) fun g sb hS3 => ?_
    have hS4 : g.SetOf (PySem.strKind prog w) S (fun x => decide (x ∈ xs.take (i + 1))) (i + 1) := by
      refine SetOf_congr hS3 (fun x => ?_) ?_
      · have h : xs.take (i + 1) = xs.take i ++ [xs[i]] := by
          rw [List.take_add_one, List.getElem?_eq_getElem lt]
          rfl
        rw [gi, h, Bool.eq_iff_iff]
        simp only [Bool.or_eq_true, decide_eq_true_eq, List.mem_append, List.mem_singleton]
      · rw [gi, decide_eq_false new]
        simp
    refine wpAny_pure ⟨plainId_quiet PyProof.Rows.F.plain_set_update_loop _, ih (i + 1) _ (by omega) (W.frame _ s2 _ _ st2 (Nat.le_succ _) fun b hbf o ho => ?_) hS4 fun s3 mv3 hS5 => fin s3 ?_ hS5⟩
    · exact (sb.2 b fun q => far (q ▸ hbf)).trans ho
    · exact Moved.trans W.gtrans ((mv.mono fun b hb => List.mem_cons_of_mem S hb).then_heap (Nat.le_succ _) fun b o nb ho => (sb.2 b fun q => nb (q ▸ List.mem_cons_self ..)).trans ho) mv3
end
/-- the set as it is made -/
abbrev set0 (led : Bool) : Obj := { cls := .type "set", dict := none, data := .set #[] 0 (.fresh 0 0 led) }
section
variable {prog : Program} {w : World} {A : Around} {E : Value → Shared → Prop} {s : Shared}
/-- set(v): the class makes it, its __init__ fills it -/
theorem call_setV {v : Value} {xs : List Str} {Q : Value → Shared → Prop}
    (fill : ∀ (led : Bool) (A2 : Around) (g : Heap), A2.handled = A.handled → g = s.heap.push (set0 led) → wpAny (model prog w) A2 (Builtin.«set.__init__» ⟨[.ref s.heap.objs.size, v], []⟩)
      (fun r s2 => r = .done (.ret .none) ∧ ∃ h tk, s2 = { s with heap := h, toks := tk } ∧ h.SetOf (PySem.strKind prog w) s.heap.objs.size (fun x => decide (x ∈ xs)) xs.length ∧ ∀ b o, b < s.heap.objs.size → s.heap.get? b = some o → h.get? b = some o) E { s with heap := g })
    (fin : ∀ (h : Heap) (tk : Nat), h.SetOf (PySem.strKind prog w) s.heap.objs.size (fun x => decide (x ∈ xs)) xs.length → (∀ b o, b < s.heap.objs.size → s.heap.get? b = some o → h.get? b = some o) → Q (.ref s.heap.objs.size) { s with heap := h, toks := tk }) :
    wpAny (model prog w) A (call (.type "set") [v]) Q E s := by
  obtain ⟨c, tl, hmro⟩ := PySem.F.called_set.mro
  have m1 := PySem.F.called_set.made
  have m2 := PySem.F.called_set.sub
  refine wpAny_call (codeAny_of_tree (wpAny_pure ⟨Code.quiet_builtin _ (by decide +kernel), codeAny_builtin PySem.F.entry_type_call ?_⟩))
  rw [Around.under_plain (weight_type_call_type "set" [v] []) rfl]
  have m3 := PySem.F.called_set.notType
  have m4 := PySem.F.called_set.canCreate
  have m5 := PySem.F.typeCall_set_1 v
  repeat (any_goals (first | assumption | wp_step))
  refine codeAny_mono (code_set_new_1 v (E := E) (Q₁ := fun o s1 => ∃ led, o = .ref s.heap.objs.size ∧ s1 = { s with heap := s.heap.push (set0 led) }) fun led => ⟨led, rfl, rfl⟩) fun r s1 hr => ?_
  cases r with
  | error e => exact hr
  | ok fl =>
    cases fl with
    | ret o =>
      obtain ⟨led, rfl, rfl⟩ := hr
      have at0 : (s.heap.push (set0 led)).get? s.heap.objs.size = some (set0 led) := Heap.get?_push_size _ rfl
      have hT : Shared.TypeIs { s with heap := s.heap.push (set0 led) } (.ref s.heap.objs.size) "set" := ⟨_, at0, rfl⟩
      have n1 := PySem.F.called_set.init.lookup
      have n2 := PySem.F.called_set.init.bind (.ref s.heap.objs.size)
      repeat (any_goals (first | assumption | wp_step))
      refine codeAny_mono (codeAny_call_builtin (R := wants (fun r s2 => r = .none ∧ ∃ h tk, s2 = { s with heap := h, toks := tk } ∧ h.SetOf (PySem.strKind prog w) s.heap.objs.size (fun x => decide (x ∈ xs)) xs.length ∧
        ∀ b o, b < s.heap.objs.size → s.heap.get? b = some o → h.get? b = some o) E) PySem.F.called_set.init.plain PySem.F.entry_set_init (check_set_init_1 hT ?_)) fun r2 s2 hr2 => ?_
      · exact wpAny_mono (fill led _ _ rfl rfl) (fun r s2 ⟨e, h⟩ => by subst e; exact ⟨rfl, h⟩) (fun e s2 h => h)
      · cases r2 with
        | error e => exact hr2
        | ok fl2 =>
          cases fl2 with
          | ret r =>
            obtain ⟨rfl, h, tk, rfl, hS, hk⟩ := hr2
            repeat (any_goals (first | assumption | wp_step))
            exact fin h tk hS hk
          | _ => exact hr2.elim
    | _ => exact hr.elim
theorem sub_str_set : isSubtype (.type "str") (.type "set") = pure false := by rw [isSubtype_type]; kernel_rfl
theorem sub_str_frozen : isSubtype (.type "str") (.type "frozenset") = pure false := by rw [isSubtype_type]; kernel_rfl
theorem set0_of (led : Bool) {h : Heap} {a : Addr} (e : h.get? a = some (set0 led)) : h.SetOf (PySem.strKind prog w) a (fun x => decide (x ∈ ([] : List Str))) 0 :=
  SetOf_congr ((setObjOf_fresh (knd := PySem.strKind prog w) led).setOf e (by unfold scanBound; omega)) (fun _ => rfl) rfl
theorem walksT (hh : A.handled = none) (I : Addr) (y : Str) (t : Tok) : Walks prog w A I [I] [I] y.cps.size (SignAt y) (fun i h => h.IsStrIter I (strIterType y) y t i) := by
  cases e : y.cps.all (· < 128)
  · simp only [strIterType, e, Bool.false_eq_true, if_false]
    exact .strWide hh I y t
  · simp only [strIterType, e, if_true]
    exact .strAscii hh I y t
/-- what is behind iter(v): the set's loop over it -/
theorem loop_from {xs : List Str} {led : Bool} {it : Obj} {fp wr : List Addr} {Pw : Nat → Value → Prop} {Sw : Nat → Heap → Prop} (nd : xs.Nodup) (hb : xs.length + 1 < scanBound) {g : Heap} (eg : g = (s.heap.push (set0 led)).push it)
    (W : ∀ A2 : Around, A2.handled = A.handled → Walks prog w A2 (s.heap.objs.size + 1) fp wr xs.length Pw Sw) (far : s.heap.objs.size ∉ fp) (old : ∀ b ∈ wr, b = s.heap.objs.size + 1) (txt : ∀ i v, Pw i v → ∃ t, v = .str (xs.getD i Str.empty) t) (st : Sw 0 g) {Z : Value → Shared → Prop}
    (fin : ∀ (h : Heap) (tk : Nat), h.SetOf (PySem.strKind prog w) s.heap.objs.size (fun x => decide (x ∈ xs)) xs.length → (∀ b o, b < s.heap.objs.size → s.heap.get? b = some o → h.get? b = some o) → Z .none { s with heap := h, toks := tk }) :
    wpAny (model prog w) A (runValue (.builtin "set.update.loop" ⟨[.ref s.heap.objs.size, .ref (s.heap.objs.size + 1)], []⟩)) Z E { s with heap := g } := by
  subst eg
  have at0 : ((s.heap.push (set0 led)).push it).get? s.heap.objs.size = some (set0 led) := Heap.get?_push_of_some _ (Heap.get?_push_size _ rfl)
  refine wpAny_runValue (fillSet (Sw := fun i s => Sw i s.heap) xs nd hb (W A.in1 rfl).toS far txt xs.length 0 _ (Nat.zero_add _) st (set0_of led at0) fun s2 mv hS => ?_)
  obtain ⟨h2, g2, d2, t2, o2⟩ := s2
  have e1 : g2 = s.gens := mv.gens
  have e2 : d2 = s.drawn := mv.drawn
  have e3 : o2 = s.os := mv.os
  subst e1; subst e2; subst e3
  refine fin h2 t2 hS (fun b o lt e => mv.heap b o (fun m => ?_) (Heap.get?_push_of_some _ (Heap.get?_push_of_some _ e)))
  rcases List.mem_cons.mp m with q | q
  · exact Nat.ne_of_lt lt q
  · exact Nat.ne_of_lt (Nat.lt_succ_of_lt lt) (old b q)
/-- __init__ of a set, over a text of unlike signs -/
theorem init_text {y : Str} {t : Tok} (nd : (sgn y).Nodup) (hb : y.length + 1 < scanBound) {led : Bool} {g : Heap} (hh : A.handled = none) (eg : g = s.heap.push (set0 led)) :
    wpAny (model prog w) A (Builtin.«set.__init__» ⟨[.ref s.heap.objs.size, .str y t], []⟩)
      (fun r s2 => r = .done (.ret .none) ∧ ∃ h tk, s2 = { s with heap := h, toks := tk } ∧ h.SetOf (PySem.strKind prog w) s.heap.objs.size (fun x => decide (x ∈ sgn y)) (sgn y).length ∧ ∀ b o, b < s.heap.objs.size → s.heap.get? b = some o → h.get? b = some o) E { s with heap := g } := by
  subst eg
  have at0 : (s.heap.push (set0 led)).get? s.heap.objs.size = some (set0 led) := Heap.get?_push_size _ rfl
  have q1 := sub_str_set
  have q2 := sub_str_frozen
  have q3 : (Value.type "str" == Value.type "dict") = false := by decide
  have hT : Shared.TypeIs { s with heap := s.heap.push (set0 led) } (.ref s.heap.objs.size) "set" := ⟨_, at0, rfl⟩
  unfold Builtin.«set.__init__» noKeywords Builtin.Frozenset.updateFrom
  generalize ep : pyIter = PI
  wp_walk
  subst ep
  refine wpAny_pyIter_strU (wpAny_bind ?_)
  have sz : (s.heap.push (set0 led)).objs.size = s.heap.objs.size + 1 := Heap.size_push ..
  have sl : (sgn y).length = y.cps.size := sgn_len y
  show wpAny (model prog w) A (runValue (.builtin "set.update.loop" ⟨[.ref s.heap.objs.size, .ref (s.heap.push (set0 led)).objs.size], []⟩)) _ _ _
  rw [sz]
  refine loop_from (prog := prog) (w := w) (fp := [s.heap.objs.size + 1]) (wr := [s.heap.objs.size + 1]) nd (by rw [sgn_len]; exact hb) rfl (fun A2 e => by
    rw [sl]
    exact walksT (prog := prog) (w := w) (e.trans hh) (s.heap.objs.size + 1) y t) ?_ (fun b hb => by simpa using hb) (fun i v hv => ?_) ?_ (fun h tk hS hk => wpAny_pure (wpAny_pure ⟨rfl, h, tk, rfl, hS, hk⟩))
  · simp
  · obtain ⟨c, u, hc, rfl⟩ := hv
    refine ⟨u, ?_⟩
    rw [List.getD_eq_getElem?_getD]
    unfold sgn
    rw [List.getElem?_map, Array.getElem?_toList, hc]
    rfl
  · refine ⟨{ cls := .type (strIterType y), data := .fields #[.str y t, .int 0 0] }, ?_, rfl, rfl⟩
    rw [← sz]
    exact Heap.get?_push_size _ rfl
/-- __init__ of a set, over a list of unlike texts -/
theorem init_list {l : Addr} {its : Array Value} {xs : List Str} (nd : xs.Nodup) (hb : xs.length + 1 < scanBound) (hs : L2.Vals (xs.map L2.V.str) its.toList) (hl : s.heap.IsList l its) {led : Bool} {g : Heap} (hh : A.handled = none) (eg : g = s.heap.push (set0 led)) :
    wpAny (model prog w) A (Builtin.«set.__init__» ⟨[.ref s.heap.objs.size, .ref l], []⟩)
      (fun r s2 => r = .done (.ret .none) ∧ ∃ h tk, s2 = { s with heap := h, toks := tk } ∧ h.SetOf (PySem.strKind prog w) s.heap.objs.size (fun x => decide (x ∈ xs)) xs.length ∧ ∀ b o, b < s.heap.objs.size → s.heap.get? b = some o → h.get? b = some o) E { s with heap := g } := by
  subst eg
  have at0 : (s.heap.push (set0 led)).get? s.heap.objs.size = some (set0 led) := Heap.get?_push_size _ rfl
  have hT : Shared.TypeIs { s with heap := s.heap.push (set0 led) } (.ref s.heap.objs.size) "set" := ⟨_, at0, rfl⟩
  have sl : xs.length = its.size := by rw [← Array.length_toList, ← hs.length, List.length_map]
  have hl1 : (s.heap.push (set0 led)).IsList l its := hl.push _
  obtain ⟨ol, hol, hcl, nl, hdl⟩ := hl
  obtain ⟨ocls, odict, odata, oslots⟩ := ol
  simp only at hcl hdl
  subst hcl
  subst hdl
  have lt : l < s.heap.objs.size := Heap.lt_size hol
  have at1 : (s.heap.push (set0 led)).get? l = some { cls := .type "list", dict := odict, data := .seq its nl, slots := oslots } := Heap.get?_push_of_some _ hol
  have q1 := PySem.F.sub_list_set
  have q2 := PySem.F.sub_list_frozenset
  have q3 : (Value.type "list" == Value.type "dict") = false := by decide
  unfold Builtin.«set.__init__» noKeywords Builtin.Frozenset.updateFrom
  generalize ep : pyIter = PI
  wp_walk
  subst ep
  have sz : (s.heap.push (set0 led)).objs.size = s.heap.objs.size + 1 := Heap.size_push ..
  refine wpAny_pyIter_list hl1 (wpAny_bind ?_)
  show wpAny (model prog w) A (runValue (.builtin "set.update.loop" ⟨[.ref s.heap.objs.size, .ref (s.heap.push (set0 led)).objs.size], []⟩)) _ _ _
  rw [sz]
  refine loop_from (prog := prog) (w := w) (fp := [s.heap.objs.size + 1, l]) (Pw := fun i v => its[i]? = some v) (wr := [s.heap.objs.size + 1]) nd hb rfl (fun A2 e => by
    rw [sl]
    exact Walks.list (prog := prog) (w := w) (e.trans hh) (s.heap.objs.size + 1) l (Nat.ne_of_lt (Nat.lt_succ_of_lt lt)) its) ?_ (fun b hb => by simpa using hb) (fun i v hv => ?_) ?_ (fun h tk hS hk => wpAny_pure (wpAny_pure ⟨rfl, h, tk, rfl, hS, hk⟩))
  · intro m
    rcases List.mem_cons.mp m with q | q
    · exact Nat.ne_of_lt (Nat.lt_succ_self _) q
    · exact Nat.ne_of_gt lt (List.mem_singleton.mp q)
  · have hv2 : its.toList[i]? = some v := by rw [Array.getElem?_toList]; exact hv
    have li : i < xs.length := by
      have := (List.getElem?_eq_some_iff.mp hv2).1
      rw [← hs.length, List.length_map] at this
      exact this
    obtain ⟨w2, h2, t, e⟩ := hs.get (i := i) (x := .str xs[i]) (by rw [List.getElem?_map, List.getElem?_eq_getElem li]; rfl)
    rw [hv2] at h2
    cases h2
    refine ⟨t, ?_⟩
    rw [e, List.getD_eq_getElem?_getD, List.getElem?_eq_getElem li]
    rfl
  · refine ⟨⟨{ cls := .type "list_iterator", data := .fields #[.ref l, .int 0 0] }, ?_, rfl, rfl⟩, hl1.push _⟩
    rw [← sz]
    exact Heap.get?_push_size _ rfl
end
end SN
namespace SN
open PySem L2
open PyProof.Rows hiding St
/-- len(set(x)), x a list of unlike texts -/
def tLenSetL (K : PySem.W.Frag) (ta : TE) : TE := fun σ H Q => ta σ H fun x H1 => ∃ (l : Addr) (xs : List Str), x = .ref l ∧ SqL K H1 l (xs.map V.str) ∧ xs.Nodup ∧ xs.length ≤ 60 ∧ Q (.int (xs.length : Nat)) H1
/-- len(set(y)), y a text of unlike signs -/
def tLenSetT (ta : TE) : TE := fun σ H Q => ta σ H fun x H1 => ∃ y : Str, x = .str y ∧ (sgn y).Nodup ∧ y.length ≤ 60 ∧ Q (.int (y.length : Nat)) H1
section
variable {X : Cx} {a : Expr} {ta : TE} {p p2 q pos : Pos}
theorem set_len {pins : List (Addr × Obj)} {σ : St} {H1 : Hp} {s1 : Shared} {Q : VK} {n : Nat} {xs : List Str} (hn : xs.length ≤ 60) (en : n = xs.length) (I1 : Inv X pins σ H1 s1) (q1 : Q (.int n) H1) {h' : Heap} {tk : Nat} (hS : h'.SetOf (PySem.strKind X.prog X.w) s1.heap.objs.size (fun x => decide (x ∈ xs)) xs.length)
    (hk : ∀ b o, b < s1.heap.objs.size → s1.heap.get? b = some o → h'.get? b = some o) : wpAny (model X.prog X.w) X.A (call (.builtin "len") [Value.ref s1.heap.objs.size]) (EP X pins σ Q) X.xe { s1 with heap := h', toks := tk } := by
  obtain ⟨o, es, ep, t, ho, hex, hd, _, _, _, hf, hm⟩ := hS
  have I2 : Inv X pins σ H1 { s1 with heap := h', toks := tk } := I1.kept fun b o e => hk b o (Heap.lt_size e) e
  subst en
  exact call_len_set ho hex hd hf (by rw [hm] <;> omega) ⟨.int xs.length, H1, I2.tok _, ⟨_, by rw [hm]⟩, q1⟩
theorem pe_lenSetL (hg : Gl X "len") (hm : X.mg "len" = none) (hg2 : Gl X "set") (hm2 : X.mg "set" = none) (ha : PE X a ta) (hc : X.calm = true := by rfl)
    (na : starEach [a] X.env = (false, eval a X.env) :: starEach [] X.env := by rfl) : PE X (.Call (.Name "len" p) [.Call (.Name "set" p2) [a] [] q] [] pos) (tLenSetL X.K ta) := by
  refine ⟨fun pins s σ H Q I h => ?_⟩
  refine Call_ (ld_blt I hg hm boot_len (PyProof.Rows.callWith_builtin1 (PyProof.Rows.args_cons ?_ rfl) rfl rfl))
  refine Call_ (ld_blt I hg2 hm2 boot_set (PyProof.Rows.callWith_type1 (PyProof.Rows.args_cons (thn (ha.run pins s σ H _ I h) fun v s1 ⟨x, H1, I1, r1, q1⟩ => PyProof.Rows.args_nil ?_) na) na rfl))
  obtain ⟨l, xs, rfl, hq, nd, hl, q1⟩ := q1
  cases r1
  obtain ⟨its, r, pl, _⟩ := I1.list hq
  exact call_setV (xs := xs) (fun led A2 g hh eg => init_list (its := its.toArray) nd (by unfold scanBound; omega) (by simpa using r) pl.isList (hh.trans (I1.ok.hd hc)) eg) fun h' tk hS hk => PyProof.Rows.args_nil (set_len hl rfl I1 q1 hS hk)
theorem pe_lenSetT (hg : Gl X "len") (hm : X.mg "len" = none) (hg2 : Gl X "set") (hm2 : X.mg "set" = none) (ha : PE X a ta) (hc : X.calm = true := by rfl)
    (na : starEach [a] X.env = (false, eval a X.env) :: starEach [] X.env := by rfl) : PE X (.Call (.Name "len" p) [.Call (.Name "set" p2) [a] [] q] [] pos) (tLenSetT ta) := by
  refine ⟨fun pins s σ H Q I h => ?_⟩
  refine Call_ (ld_blt I hg hm boot_len (PyProof.Rows.callWith_builtin1 (PyProof.Rows.args_cons ?_ rfl) rfl rfl))
  refine Call_ (ld_blt I hg2 hm2 boot_set (PyProof.Rows.callWith_type1 (PyProof.Rows.args_cons (thn (ha.run pins s σ H _ I h) fun v s1 ⟨x, H1, I1, r1, q1⟩ => PyProof.Rows.args_nil ?_) na) na rfl))
  obtain ⟨y, rfl, nd, hl, q1⟩ := q1
  obtain ⟨t, rfl⟩ := r1
  exact call_setV (xs := sgn y) (fun led A2 g hh eg => init_text nd (by unfold scanBound; omega) (hh.trans (I1.ok.hd hc)) eg) fun h' tk hS hk => PyProof.Rows.args_nil (set_len (by rw [sgn_len]; exact hl) (sgn_len y).symm I1 q1 hS hk)
end
section
variable {C : Cn} {Γ : List Sl} {te : TE}
theorem ev_lenSetL {xs : List Str} (h : EvD C te Γ (eS xs)) (nd : xs.Nodup) (hl : xs.length ≤ 60) : EvD C (tLenSetL C.K te) Γ (.int xs.length) := fun σ G H E Q q => h σ G H E _ fun v d G2 H2 p F I hv => by
  subst p
  obtain ⟨a, vs, rfl, ha, hk⟩ := dp_list hv
  rw [dpa_strs hk] at ha
  exact ⟨a, xs, rfl, .of (F.gh _ _ ha), nd, hl, q _ _ _ _ rfl F I (.int _)⟩
theorem ev_lenSetT {y : Str} (h : EvD C te Γ (.str y)) (nd : (sgn y).Nodup) (hl : y.length ≤ 60) : EvD C (tLenSetT te) Γ (.int y.length) := fun σ G H E Q q => h σ G H E _ fun v d G2 H2 p F I hv => by
  subst p
  exact ⟨y, dp_str hv, nd, hl, q _ _ _ _ rfl F I (.int _)⟩
end
end SN

/-! SN: the part behind the last mark. -/
namespace SN
open PySem L2
open PySem.Builtin.Str (strSub lastOccurrence subAt)
section
variable {X : Cx}
/-- x.rpartition(y) where y stands once, at i -/
def rRpart : V → List V → Hp → VK → Prop := fun x xs H Q => ∃ a b, ∃ i : Nat, x = .str a ∧ xs = [.str b] ∧ (b.length == 0) = false ∧ a.length ≤ sizeLine ∧ StrLaws.At a b a.length i ∧ (∀ k, i < k → ¬ StrLaws.At a b a.length k) ∧
  ∀ p, H p = none → Q (.ref p) (upd H p (.tup [.str (strSub a 0 i), .str b, .str (strSub a (i + b.length) a.length)]))
theorem mt_rpart : MtR X "str.rpartition" rRpart := by
  intro pins s σ H x xs v us Q I rx rs h
  obtain ⟨a, b, i, rfl, rfl, hb, hz, hi, hn, h⟩ := h
  obtain ⟨t, rfl⟩ := rx
  obtain ⟨_, rfl, u, rfl⟩ := vals1 rs
  refine call_meets PySem.F.slot_str_rpartition (typeIs_str _ _ _) PySem.F.entry_str_rpartition (PySem.F.args_str_rpartition_2 _ _) (meets_str_rpartition a b t u hb hz) ?_
  rcases StrLaws.last_spec a b with ⟨_, no⟩ | ⟨j, ej, hj, nj⟩
  · exact absurd hi (no i)
  · have : j = i := by
      rcases Nat.lt_trichotomy i j with q | q | q
      · exact absurd hj (hn j q)
      · exact q.symm
      · exact absurd hi (nj i q)
    subst this
    rw [ej]
    exact laid_parts I h
theorem pe_rpart {a e : Expr} {ta te : TE} {apos pos : Pos} (ha : PE X a ta) (he : PE X e te) (hs : starEach [e] X.env = [(false, eval e X.env)] := by rfl) (hbase : attributeBase a "rpartition" X.env (eval a X.env) = eval a X.env := by rfl) (hline : (apos.endLine == pos.line) = true := by rfl) :
    PE X (.Call (.Attribute a "rpartition" apos) [e] [] pos) (tM1 rRpart ta te) := pe_m1 PySem.F.slot_str_rpartition PySem.F.type_str_rpartition mt_rpart ha he hs hbase hline
end
section
variable {C : Cn} {Γ : List Sl} {te tb : TE}
theorem tl_sub (x : Str) (i j : Nat) : TL.tl (strSub x i j) = ((TL.tl x).take j).drop i := by
  unfold strSub
  show (x.cps.extract i j).toList = _
  rw [Array.toList_extract]
  show (x.cps.toList.drop i).take (j - i) = (x.cps.toList.take j).drop i
  rw [List.drop_take]
theorem tl_inj {x y : Str} (h : TL.tl x = TL.tl y) : x = y := by
  obtain ⟨⟨a⟩⟩ := x
  obtain ⟨⟨b⟩⟩ := y
  cases h
  rfl
/-- the mark c stands at the end of a, and nowhere behind -/
theorem ev_rpart {a b : Str} {c : Nat} (h : EvD C te Γ (.str (a ++ ⟨#[c]⟩ ++ b))) (h2 : EvD C tb Γ (.str ⟨#[c]⟩)) (hc : c ∉ TL.tl b) (hl : (a ++ ⟨#[c]⟩ ++ b : Str).length ≤ 1000) : EvD C (tM1 rRpart te tb) Γ (.tuple [.str a, .str ⟨#[c]⟩, .str b]) := fun σ G H E Q q => by
  refine h σ G H E _ fun v d G2 H2 p f i hv => ?_
  subst p
  have ev := dp_str hv
  subst ev
  refine ⟨⟨_, rfl⟩, ?_⟩
  refine h2 σ G2 H2 (E.stepM f i) _ fun v d G3 H3 p f2 i2 hv2 => ?_
  subst p
  have ev := dp_str hv2
  subst ev
  have etl : TL.tl (a ++ ⟨#[c]⟩ ++ b : Str) = TL.tl a ++ [c] ++ TL.tl b := by
    show (a ++ ⟨#[c]⟩ ++ b : Str).cps.toList = _
    rw [Str.cps_append, Str.cps_append, Array.toList_append, Array.toList_append]
  have la : (TL.tl a).length = a.length := by
    show a.cps.toList.length = a.cps.size
    rw [Array.length_toList]
  have lb : (TL.tl b).length = b.length := by
    show b.cps.toList.length = b.cps.size
    rw [Array.length_toList]
  have lx : (a ++ ⟨#[c]⟩ ++ b : Str).length = a.length + 1 + b.length := by
    have := congrArg List.length etl
    simp only [List.length_append, List.length_singleton, la, lb] at this
    rw [← this]
    show _ = (a ++ ⟨#[c]⟩ ++ b : Str).cps.toList.length
    rw [Array.length_toList]
    rfl
  have at1 : ∀ k, StrLaws.At (a ++ ⟨#[c]⟩ ++ b : Str) ⟨#[c]⟩ (a ++ ⟨#[c]⟩ ++ b : Str).length k ↔ (TL.tl a ++ [c] ++ TL.tl b)[k]? = some c := fun k => by
    rw [← etl]
    exact StrLaws.subAt_one _ c k
  refine ⟨_, ⟨#[c]⟩, a.length, rfl, rfl, rfl, Nat.le_of_lt (small1000 hl), (at1 _).mpr ?_, fun k hk z => ?_, fun p hp => ?_⟩
  · rw [List.append_assoc, List.getElem?_append_right (by omega), la, Nat.sub_self]
    rfl
  · have z2 := (at1 k).mp z
    rw [List.getElem?_append_right (by rw [List.length_append, la]; simp; omega)] at z2
    exact hc (List.mem_of_getElem? z2)
  · have e1 : strSub (a ++ ⟨#[c]⟩ ++ b : Str) 0 a.length = a := tl_inj (by
      rw [tl_sub, etl, List.append_assoc, List.take_append_of_le_length (by omega), ← la, List.take_length]
      rfl)
    have e2 : strSub (a ++ ⟨#[c]⟩ ++ b : Str) (a.length + (⟨#[c]⟩ : Str).length) (a ++ ⟨#[c]⟩ ++ b : Str).length = b := tl_inj (by
      have l1 : (TL.tl a ++ [c] ++ TL.tl b).length = a.length + 1 + b.length := by
        simp only [List.length_append, List.length_singleton, la, lb]
      rw [tl_sub, etl, lx, ← l1, List.take_length, List.drop_append_of_le_length (by simp [la]; exact Nat.le_refl _)]
      rw [List.drop_eq_nil_of_le (by simp [la]; exact Nat.le_refl _)]
      rfl)
    rw [e1, e2]
    have f3 : Fr M0 G3 H3 (upd G3 p (.tup [.str a, .str ⟨#[c]⟩, .str b])) (upd H3 p (.tup [.str a, .str ⟨#[c]⟩, .str b])) := Fr.new f2.gh hp
    exact q (.ref p) _ _ _ rfl ((f.transM f2).trans0 f3) (C.hI _ _ (fun a o _ e => f3.hh a o (fun z => z) e) i2) (.tup upd_same (.cons (.str _) (.cons (.str _) (.cons (.str _) .nil))))
/-- sep.join(a list of texts) -/
theorem ev_join {a : Str} {ys : List Str} (h : EvD C te Γ (.str a)) (h2 : EvD C tb Γ (eS ys)) (hl : (ys.map (·.length)).sum + ys.length * a.length ≤ 100000) :
    EvD C (tM1 (fun x xs H Q => ∃ a p, ∃ ys : List Str, x = .str a ∧ xs = [.ref p] ∧ (SqL C.K H p (ys.map V.str) ∨ SqT C.K H p (ys.map V.str)) ∧ (ys.map (·.length)).sum + ys.length * a.length ≤ 16777216 ∧ Q (.str (Txt.join a ys)) H) te tb) Γ (.str (Txt.join a ys)) := fun σ G H E Q q => by
  refine h σ G H E _ fun v d G2 H2 p f i hv => ?_
  subst p
  have ev := dp_str hv
  subst ev
  refine ⟨⟨_, rfl⟩, ?_⟩
  refine h2 σ G2 H2 (E.stepM f i) _ fun v d G3 H3 p f2 i2 hv2 => ?_
  subst p
  obtain ⟨l, vs, rfl, hl2, hk⟩ := dp_list hv2
  rw [dpa_strs hk] at hl2
  exact ⟨a, l, ys, rfl, rfl, .inl (.of (f2.gh _ _ hl2)), by omega, q _ _ G3 H3 rfl (f.transM f2) i2 (.str _)⟩
theorem laid_data {K : PySem.W.Frag} {G H : Hp} {p : Addr} {ys : List Str} (s : Same G H) (hp : H p = none) : Fr M0 G H (upd G p (.lst (ys.map V.str))) (upd H p (.lst (ys.map V.str))) ∧ Dq K (upd G p (.lst (ys.map V.str))) (.ref p) (eS ys) :=
  ⟨Fr.new s hp, .lst upd_same dpa_of_strs⟩
/-- x.split(y) -/
theorem ev_split {a b : Str} (h : EvD C te Γ (.str a)) (h2 : EvD C tb Γ (.str b)) (hb : (b.length == 0) = false) (hl : a.length ≤ 100000) :
    EvD C (tM1 (fun x xs H Q => ∃ a b, x = .str a ∧ xs = [.str b] ∧ (b.length == 0) = false ∧ a.length + 2 ≤ sizeLine ∧ rNewStrs (Txt.split a b) H Q) te tb) Γ (eS (Txt.split a b)) := fun σ G H E Q q => by
  refine h σ G H E _ fun v d G2 H2 p f i hv => ?_
  subst p
  have ev := dp_str hv
  subst ev
  refine ⟨⟨_, rfl⟩, ?_⟩
  refine h2 σ G2 H2 (E.stepM f i) _ fun v d G3 H3 p f2 i2 hv2 => ?_
  subst p
  have ev := dp_str hv2
  subst ev
  refine ⟨a, b, rfl, rfl, hb, by rw [sizeLine_eq]; omega, fun p hp => ?_⟩
  obtain ⟨f3, hd⟩ := laid_data (K := C.K) (ys := Txt.split a b) f2.gh hp
  exact q (.ref p) _ _ _ rfl ((f.transM f2).trans0 f3) (C.hI _ _ (fun a o _ e => f3.hh a o (fun z => z) e) i2) hd
end
end SN

/-! SN: dicts in the slots. -/
namespace SN
open PySem L2
def isDic : Sl → Bool
  | .dic _ => true
  | .dir _ => true
  | _ => false
def loneD (Γ : List Sl) (i : Nat) : Bool := (Γ.set i .un).all fun s => !isDic s
section
variable {C : Cn} {Γ : List Sl} {te tv ty : TE} {nx bk ct : St → Hp → Prop} {rt : VK} {d z : PyData}
theorem nx_dnew {i : Nat} (k : Nx C (Γ.set i (.dic [])) nx) : Nx C Γ (tAsg tDNewK (gName i) ⟨nx, rt, bk, ct⟩) := fun σ G H E p hp => by
  have f : Fr M0 G H G (upd H p (.dK [])) := Fr.newU E.fr.gh hp
  exact k _ G _ ((E.step f).set ⟨p, rfl, E.h0 hp, none_of E.fr.gh hp, upd_same⟩)
theorem Fm.putDic {σ : St} {G H : Hp} {i : Nat} {l : Addr} {kvs ws : List (Key × V)} (E : Fm C σ Γ G H) (hi : Γ[i]? = some (.dic kvs)) (hu : loneD Γ i = true) (e : σ[i]? = some (some (.ref l))) (h0 : C.H0 l = none) (g : G l = none)
    (hl : H l = some (.dK kvs)) : Fm C σ (Γ.set i (.dic ws)) G (upd H l (.dK ws)) where
  fr := E.fr.put hl g (.inr h0)
  inv := C.hI _ _ (fun a o m e => by
    have na : a ≠ l := fun q => C.young h0 (q ▸ m)
    rw [upd_ne na]
    exact e) E.inv
  len := by rw [List.length_set]; exact E.len
  sl := fun j s ej => by
    by_cases hj : i = j
    · subst hj
      obtain ⟨hlt, _⟩ := List.getElem?_eq_some_iff.mp hi
      rw [List.getElem?_set_self hlt] at ej
      cases ej
      exact ⟨_, e, l, rfl, h0, g, upd_same⟩
    · rw [List.getElem?_set_ne hj] at ej
      obtain ⟨o, eo, hs⟩ := E.sl j s ej
      refine ⟨o, eo, ?_⟩
      have nd : isDic s = true → False := fun z => by
        have q : (Γ.set i .un)[j]? = some s := by rw [List.getElem?_set_ne hj]; exact ej
        have q2 := List.all_eq_true.mp hu _ (List.mem_of_getElem? q)
        rw [z] at q2
        cases q2
      cases s with
      | un => trivial
      | dat d => exact hs
      | own ys =>
        obtain ⟨a, vs, ea, a0, ag, ha, hd⟩ := hs
        exact ⟨a, vs, ea, a0, ag, by rw [upd_ne (ne_of ha hl (by intro z; cases z))]; exact ha, hd⟩
      | dic kvs => exact (nd rfl).elim
      | dir kvs => exact (nd rfl).elim
      | adr p => exact hs
      | spc S =>
        obtain ⟨v, ev, hv⟩ := hs
        refine ⟨v, ev, S.step (fun a => a = l) C.H0 G H G _ v (fun a xs _ ea z => ?_) ⟨Same.refl G, (E.fr.put hl g (.inr h0)).gh, fun a o z e => by rw [upd_ne z]; exact e, fun a o u e _ => ⟨o, e⟩, fun a o e => ?_⟩ hv⟩
        · rw [z, hl] at ea
          cases ea
        · by_cases z : a = l
          · exact ⟨_, by rw [z]; exact upd_same⟩
          · exact ⟨o, by rw [upd_ne z]; exact e⟩
      | pol p =>
        obtain ⟨ep, m, gp, u, hu⟩ := hs
        have np : p ≠ l := fun q => C.young h0 (q ▸ m)
        exact ⟨ep, m, gp, u, by rw [upd_ne np]; exact hu⟩
/-- d[x] = a text or a bool -/
theorem nx_dput {i : Nat} {kvs : List (Key × V)} {x : Str} {v : V} (hi : Γ[i]? = some (.dic kvs)) (hu : loneD Γ i = true) (hl : kvs.length ≤ 1000) (hv : EvD C tv Γ d) (hd : ∀ G u, Dq C.K G u d → u = v) (hk : EvD C ty Γ (.str x)) (k : Nx C (Γ.set i (.dic (putK kvs (.inr x) v))) nx) :
    Nx C Γ (sDPut (tVar i) ty tv ⟨nx, rt, bk, ct⟩) := fun σ G H E => by
  refine hv σ G H E _ fun u d' G2 H2 p f iv hu2 => ?_
  subst p
  have eu := hd _ _ hu2
  subst eu
  have E2 := E.stepM f iv
  obtain ⟨o, e, l, rfl, h0, g, hH⟩ := E2.sl i _ hi
  refine ⟨.ref l, e, ?_⟩
  refine hk σ G2 H2 E2 _ fun y d' G3 H3 p f2 i2 hy => ?_
  subst p
  have ey := dp_str hy
  subst ey
  have E3 := E2.stepM f2 i2
  obtain ⟨o', e', l', rfl, h0', g', hH'⟩ := E3.sl i _ hi
  rw [e] at e'
  cases e'
  exact ⟨l, _, rfl, DPut.k (k := .inr x) hH' (small1000 hl), k σ G3 _ (E3.putDic hi hu e h0' g' hH')⟩
/-- a dict to be read -/
def isD (s : Sl) (kvs : List (Key × V)) : Prop := s = .dic kvs ∨ s = .dir kvs
theorem Fm.dict {σ : St} {G H : Hp} {i : Nat} {s : Sl} {kvs : List (Key × V)} (E : Fm C σ Γ G H) (hi : Γ[i]? = some s) (hs : isD s kvs) : ∃ a, σ[i]? = some (some (.ref a)) ∧ ¬ C.M a ∧ H a = some (.dK kvs) := by
  obtain ⟨o, e, h⟩ := E.sl i _ hi
  rcases hs with rfl | rfl
  · obtain ⟨a, rfl, h0, _, hH⟩ := h
    exact ⟨a, e, C.young h0, hH⟩
  · obtain ⟨a, rfl, h0, hH⟩ := h
    exact ⟨a, e, h0, hH⟩
/-- x in d -/
theorem ev_din {i : Nat} {s : Sl} {kvs : List (Key × V)} {x : Str} (hi : Γ[i]? = some s) (hs : isD s kvs) (hk : EvD C ty Γ (.str x)) : EvD C (tDIn ty (tVar i)) Γ (.bool (valV kvs (.inr x)).isSome) := fun σ G H E Q q => by
  refine hk σ G H E _ fun y d' G2 H2 p f iv hy => ?_
  subst p
  have ey := dp_str hy
  subst ey
  obtain ⟨a, e, _, hH⟩ := (E.stepM f iv).dict hi hs
  exact ⟨.ref a, e, a, _, rfl, DGet.k (k := .inr x) hH, q _ _ G2 H2 rfl f iv (.bl _)⟩
theorem ev_dnotin {i : Nat} {s : Sl} {kvs : List (Key × V)} {x : Str} (hi : Γ[i]? = some s) (hs : isD s kvs) (hk : EvD C ty Γ (.str x)) : EvD C (tDNotIn ty (tVar i)) Γ (.bool (!(valV kvs (.inr x)).isSome)) := fun σ G H E Q q => by
  refine hk σ G H E _ fun y d' G2 H2 p f iv hy => ?_
  subst p
  have ey := dp_str hy
  subst ey
  obtain ⟨a, e, _, hH⟩ := (E.stepM f iv).dict hi hs
  exact ⟨.ref a, e, a, _, rfl, DGet.k (k := .inr x) hH, q _ _ G2 H2 rfl f iv (.bl _)⟩
/-- d[x], a text -/
theorem ev_dget {i : Nat} {s : Sl} {kvs : List (Key × V)} {x y : Str} (hi : Γ[i]? = some s) (hs : isD s kvs) (hk : EvD C ty Γ (.str x)) (hv : valV kvs (.inr x) = some (.str y)) : EvD C (tDGet (tVar i) ty) Γ (.str y) := fun σ G H E Q q => by
  obtain ⟨a, e, nM, hH⟩ := E.dict hi hs
  refine ⟨.ref a, e, ?_⟩
  refine hk σ G H E _ fun y' d' G2 H2 p f iv hy => ?_
  subst p
  have ey := dp_str hy
  subst ey
  have h2 : H2 a = some (.dK kvs) := f.hh a _ nM hH
  refine ⟨a, .str y, rfl, ?_, q _ _ G2 H2 rfl f iv (.str _)⟩
  rw [← hv]
  exact DGet.k (k := .inr x) h2
/-! ### dict(pairs) -/
def eSS (p : Str × Str) : PyData := .tuple [.str p.1, .str p.2]
def kvS (p : Str × Str) : Key × V := (.inr p.1, .str p.2)
theorem pairs_at {K : PySem.W.Frag} {G H : Hp} (s : Same G H) : ∀ {ps : List (Str × Str)} {vs : List V}, DqAll K G vs (ps.map eSS) → ∃ as : List Addr, vs = as.map V.ref ∧ Paired (fun p kv => SqT K H p [kV kv.1, kv.2]) as (ps.map kvS)
  | [], _, .nil => ⟨[], rfl, .nil⟩
  | p :: ps, _, .cons h t => by
    obtain ⟨as, rfl, hp⟩ := pairs_at s t
    obtain ⟨a, xs, rfl, ha, hx⟩ := dp_tuple h
    cases hx with
    | cons h1 t1 =>
      cases t1 with
      | cons h2 t2 =>
        cases t2
        rw [dp_str h1, dp_str h2] at ha
        exact ⟨a :: as, rfl, .cons (.of (s _ _ ha)) hp⟩
theorem put_new {kvs : List (Key × V)} {k : Key} {v : V} (h : ∀ kv ∈ kvs, kv.1 ≠ k) : putK kvs k v = kvs ++ [(k, v)] := by
  unfold putK
  refine if_neg fun z => ?_
  obtain ⟨kv, hkv, e⟩ := List.any_eq_true.mp z
  exact h kv hkv (of_decide_eq_true e)
theorem merge_new : ∀ {ps : List (Str × Str)} {kvs : List (Key × V)}, (ps.map (·.1)).Nodup → (∀ kv ∈ kvs, ∀ p ∈ ps, kv.1 ≠ .inr p.1) → mergeK kvs (ps.map kvS) = kvs ++ ps.map kvS
  | [], kvs, _, _ => (List.append_nil _).symm
  | p :: ps, kvs, nd, h => by
    obtain ⟨n1, n2⟩ := List.nodup_cons.mp nd
    show mergeK (putK kvs (.inr p.1) (.str p.2)) (ps.map kvS) = _
    rw [put_new fun kv hkv => h kv hkv p (List.mem_cons_self ..), merge_new n2 fun kv hkv q hq => ?_]
    · rw [List.append_assoc]
      rfl
    · rcases List.mem_append.mp hkv with z | z
      · exact h kv z q (List.mem_cons_of_mem _ hq)
      · rw [List.mem_singleton.mp z]
        intro e
        have e2 : p.1 = q.1 := Sum.inr.inj e
        exact n1 (List.mem_map.mpr ⟨q, hq, e2.symm⟩)
theorem val_at : ∀ {ps : List (Str × Str)} {i : Nat} {p : Str × Str}, (ps.map (·.1)).Nodup → ps[i]? = some p → valV (ps.map kvS) (.inr p.1) = some (.str p.2)
  | [], _, _, _, e => by simp at e
  | q :: ps, 0, p, _, e => by
    cases e
    exact valV_pos rfl
  | q :: ps, i + 1, p, nd, e => by
    obtain ⟨n1, n2⟩ := List.nodup_cons.mp nd
    have hm : p ∈ ps := List.mem_of_getElem? e
    refine (valV_neg fun z => ?_).trans (val_at (i := i) n2 e)
    have e2 : q.1 = p.1 := Sum.inr.inj z
    exact n1 (List.mem_map.mpr ⟨p, hm, e2.symm⟩)
abbrev rDictP (K : PySem.W.Frag) : List V → Hp → VK → Prop := fun xs H Q => ∃ (a : Addr) (ps : List Addr) (kvs : List (Key × V)), xs = [.ref a] ∧ SqL K H a (ps.map V.ref) ∧ Paired (fun p kv => SqT K H p [kV kv.1, kv.2]) ps kvs ∧
    ∀ p, H p = none → Q (.ref p) (upd H p (.dK (mergeK [] kvs)))
/-- x = dict(pairs), the keys unlike -/
theorem nx_dict {i : Nat} {ps : List (Str × Str)} (h : EvD C te Γ (.list (ps.map eSS))) (nd : (ps.map (·.1)).Nodup) (k : Nx C (Γ.set i (.dic (ps.map kvS))) nx) : Nx C Γ (tAsg (tCB (rDictP C.K) (tCons te tNil)) (gName i) ⟨nx, rt, bk, ct⟩) := fun σ G H E => by
  refine h σ G H E _ fun v d G2 H2 p f iv hv => ?_
  subst p
  obtain ⟨a, xs, rfl, ha, hx⟩ := dp_list hv
  obtain ⟨as, rfl, hp⟩ := pairs_at f.gh hx
  refine ⟨a, as, _, rfl, .of (f.gh _ _ ha), hp, fun l hl => ?_⟩
  rw [merge_new nd (fun kv z => by cases z), List.nil_append]
  have E2 := E.stepM f iv
  have f2 : Fr M0 G2 H2 G2 (upd H2 l (.dK (ps.map kvS))) := Fr.newU f.gh hl
  exact k _ G2 _ ((E2.step f2).set ⟨l, rfl, E2.h0 hl, none_of f.gh hl, upd_same⟩)
end
end SN

/-! SN: defs of any promise; small data rules. -/
namespace SN
open PySem L2
/-- a def keeps its word, any word -/
theorem own_fn {P : Program} {w : World} {K : PySem.W.Frag} {mg : Str → Option Value} {base : Heap} {f : Addr} {fd : FuncData} {x : Str} {i k : Nat} {dvs : List V} {N ps : List Str} {sp : Sp} (F : FnP K x i dvs f fd) (S : FnScope N ps (defScope (topS i))) (hl : ∀ vs H Q E, sp vs H Q E → vs.length = ps.length)
    (hb : ∀ (cdv : Value) (A : Around) (outer : List PySem.Env) (s : Shared) (H0 : Hp) (E : XK), Room k (A.deeper (PyProof.Rows.envOfC x (defScope (topS i)) s.heap.objs.size f cdv)) → ∃ t, PSs (cxOf CX0 P w K mg base N x (defScope (topS i)) f cdv A outer s H0 E).nox (defBody (topS i)) t ∧
      ∀ (vs : List V) (H : Hp) (Q : VK), sp vs H Q E → t ⟨fun _ H' => Q .non H', Q, fun _ _ => False, fun _ _ => False⟩ (start N vs) H) :
    FnOk P w K mg base CX0 (k + 1) f fd ps sp := by
  refine F.ok S hl (fun cdv A outer s H vs Q E hr h => ?_)
  obtain ⟨t, h1, h2⟩ := hb cdv A outer s H E hr
  exact ⟨t, h1.nox, h2 vs H Q h⟩
section
variable {C : Cn} {Γ : List Sl} {te ta tb : TE}
theorem numbered_inv {ds : List PyData} {i : Nat} {d : PyData} (h : (numbered ds)[i]? = some d) : ∃ e, ds[i]? = some e ∧ d = .tuple [.int i, e] := by
  have hl : i < ds.length := by
    have := (List.getElem?_eq_some_iff.mp h).1
    rw [numbered_len] at this
    exact this
  refine ⟨ds[i], List.getElem?_eq_getElem hl, ?_⟩
  rw [numbered_get (List.getElem?_eq_getElem hl)] at h
  exact (Option.some.inj h).symm
theorem map_inv {α β : Type} {f : α → β} {xs : List α} {i : Nat} {d : β} (h : (xs.map f)[i]? = some d) : ∃ x, xs[i]? = some x ∧ d = f x := by
  rw [List.getElem?_map] at h
  obtain ⟨x, hx, e⟩ := Option.map_eq_some_iff.mp h
  exact ⟨x, hx, e.symm⟩
theorem num_map {α : Type} {f : α → PyData} {xs : List α} {i : Nat} {d : PyData} (h : (numbered (xs.map f))[i]? = some d) : ∃ x, xs[i]? = some x ∧ d = .tuple [.int i, f x] := by
  obtain ⟨e, he, rfl⟩ := numbered_inv h
  obtain ⟨x, hx, rfl⟩ := map_inv he
  exact ⟨x, hx, rfl⟩
theorem take_more {α : Type} {xs : List α} {i : Nat} {x : α} (h : xs[i]? = some x) : xs.take (i + 1) = xs.take i ++ [x] := by
  rw [List.take_add_one, h]
  rfl
theorem take_map {α β : Type} {f : α → β} {xs : List α} {i : Nat} {x : α} (h : xs[i]? = some x) : (xs.take (i + 1)).map f = (xs.take i).map f ++ [f x] := by
  rw [take_more h, List.map_append]
  rfl
theorem not_taken {xs : List Str} {i : Nat} {x : Str} (nd : xs.Nodup) (h : xs[i]? = some x) : x ∉ xs.take i := fun m => by
  obtain ⟨j, hj⟩ := List.mem_iff_getElem?.mp m
  rw [List.getElem?_take] at hj
  by_cases hji : j < i
  · rw [if_pos hji] at hj
    have := nd_at nd hj h
    omega
  · rw [if_neg hji] at hj
    cases hj
theorem atI_map {α β : Type} {f : α → β} {xs : List α} {i : Int} {x : α} (h : atI xs i = some x) : atI (xs.map f) i = some (f x) := by
  unfold atI at h ⊢
  rw [List.length_map]
  cases e : ixN xs.length i with
  | none => rw [e] at h; cases h
  | some j =>
    rw [e] at h
    show (xs.map f)[j]? = some (f x)
    have h2 : xs[j]? = some x := h
    rw [List.getElem?_map, h2]
    rfl
theorem oo_ixM {α : Type} {f : α → PyData} {xs : List α} {i : Int} {x : α} {K : PySem.W.Frag} (h : atI xs i = some x) : OpD K (rIxL K) (.list (xs.map f)) (.int i) (f x) := oo_ixL (atI_map h)
/-- x in / not in a tuple of the top -/
theorem ev_inG {neg : Bool} {x : Str} {us : List V} (xs : List Str) (h : EvD C ta Γ (.str x)) (eu : us = xs.map V.str := by rfl) : EvD C (tOp (rIn C.K neg) ta (tG fun a => ∀ H, SqT C.K H a us)) Γ (.bool (if neg then !decide (x ∈ xs) else decide (x ∈ xs))) := fun σ G H E Q q => by
  subst eu
  refine h σ G H E _ fun v d G2 H2 p f iv hv => ?_
  subst p
  have e := dp_str hv
  subst e
  refine fun a ha => ⟨a, _, rfl, .inr (ha H2), rfl, flat_strs xs, ?_⟩
  rw [inV_strs]
  exact q _ _ G2 H2 rfl f iv (.bl _)
end
end SN

/-! SN: the look at a book. -/
namespace SN
open PySem L2
def kvB (k : Str × Bool) : Key × V := (.inr k.1, .bl k.2)
structure KindsOk (ks : List (Str × Bool)) : Prop where
  l1 : 1 ≤ ks.length
  l6 : ks.length ≤ 6
  kn : ∀ k ∈ ks, IsName k.1
  kd : (ks.map Prod.fst).Nodup
theorem val_kv (ks : List (Str × Bool)) (x : Str) : (valV (ks.map kvB) (.inr x)).isSome = decide (x ∈ ks.map Prod.fst) := by
  induction ks with
  | nil => rfl
  | cons k r ih =>
    by_cases h : k.1 = x
    · rw [List.map_cons, valV_pos (show (kvB k).1 = .inr x from congrArg Sum.inr h)]
      exact (decide_eq_true (by rw [List.map_cons, h]; exact List.mem_cons_self ..)).symm
    · rw [List.map_cons, valV_neg (fun e => h (Sum.inr.inj e)), ih]
      have h2 : ¬ x = k.1 := fun q => h q.symm
      simp [h2]
section
variable {P : Program} {w : World} {K : PySem.W.Frag} {mg : Str → Option Value} {base : Heap} {f : Addr} {fd : FuncData}
/-- look_at_kinds gives a new dict -/
def kindSp (K : PySem.W.Frag) : Sp := fun vs H Q _ => ∃ (G : Hp) (ks : List (Str × Bool)), Same G H ∧ DqAll K G vs [.list (ks.map eK)] ∧ KindsOk ks ∧ ∀ a G2 H2, Fr M0 G H G2 H2 → G2 a = none → H a = none → H2 a = some (.dK (ks.map kvB)) → Q (.ref a) H2
abbrev N_look_at_kinds : List Str := ["kinds", "found", "at", "kind"]
abbrev P_look_at_kinds : List Str := ["kinds"]
theorem sc_look_at_kinds : FnScope N_look_at_kinds P_look_at_kinds (defScope (topS 20)) := ⟨rfl, rfl, rfl, by decide +kernel, rfl, by decide +kernel, by decide +kernel⟩
theorem ok_look_at_kinds (T : Tx w K mg) (F : FnP K "look_at_kinds" 20 [] f fd) (Dis_list_of : Kd P w K mg base "is_list_of" P_is_list_of (pureSp K R_is_list_of) 1) (Dis_pair : Kd P w K mg base "is_pair" P_is_pair (pureSp K R_is_pair) 1)
    (Dis_name : Kd P w K mg base "is_name" P_is_name (pureSp K R_is_name) 2) : FnOk P w K mg base CX0 3 f fd P_look_at_kinds (kindSp K) := by
  have nd := sc_look_at_kinds.nd
  refine own_fn F sc_look_at_kinds (fun vs H Q E ⟨_, _, _, h, _⟩ => dpa_len h) fun cdv A outer s H E hr => ⟨_, (pss_cons (ps_if (pt_not (pt_val (pe_df Dis_list_of (hr.mono (by decide)) (by rfl) (pa_cons (pv 0) (pa_cons (gint T.gMOST_KINDS) pa_nil))))) (pss_one ps_never) pss_nil)
      (pss_cons (ps_set (i := 1) nd rfl (Or.inl rfl) pe_dnewK)
      (pss_cons (ps_for PassesOwn.never rfl (pi_enum (by rfl) T.enumerate (pa_cons (pv 0) pa_nil)) (pg_tup rfl (pgs_cons (pg_name (i := 2) nd rfl (Or.inl rfl)) (pgs_cons (pg_name (i := 3) nd rfl (Or.inl rfl)) pgs_nil))) (pss_cons (ps_if (PW.pt (pw_or (pt_not (pt_val (pe_df Dis_pair (hr.mono (by decide)) (by rfl) (pa_cons (pv 3) pa_nil)))) (pw_or (pt_not (pt_val (pe_df Dis_name (hr.mono (by decide)) (by rfl) (pa_cons (pe_ix ix_tup (pv 3) pe_int (fun _ _ => rfl)) pa_nil)))) (pw_or (pt_not (pt_val (pe_callB call_isi (by rfl) T.isinstance (by decide +kernel) (pa_cons (pe_ix ix_tup (pv 3) pe_int (fun _ _ => rfl)) (pa_cons (pe_bltn (v := .ty "bool") (by rfl) T.bool (by decide +kernel) rfl) pa_nil))))) (pw_or1 (pt_cmp (pc_din (hu_of hr) (pe_ix ix_tup (pv 3) pe_int (fun _ _ => rfl)) (pv 1)))))))) (pss_one ps_never) pss_nil)
        (pss_one (ps_dput (hu_of hr) (pv 1) (pe_ix ix_tup (pv 3) pe_int (fun _ _ => rfl)) (pe_ix ix_tup (pv 3) pe_int (fun _ _ => rfl)) rfl))))
      (pss_one (ps_ret (pv 1)))))), fun vs H Q ⟨G, ks, sg, hv, hk, q⟩ => nx_start sg hv ?_⟩
  refine nx_seq (nx_ifF (et_notT (et_B (ev_call (ea_cons (ev_var rfl) (ea_cons ev_int ea_nil)) ⟨_, _, rfl, by rw [List.length_map]; exact hk.l1, by rw [List.length_map]; have := hk.l6; omega, rfl⟩))) (nx_next ?_))
  refine nx_seq (nx_dnew ?_)
  refine nx_seq (nx_forD (fun i => [.dat (.list (ks.map eK)), .dic ((ks.take i).map kvB), .un, .un]) (wk_enum (ea_cons (ev_var rfl) ea_nil)) (.same (.same (.same (.same .nil)))) (fun i d G1 hd => ?_) ?_)
  · obtain ⟨k, hi, rfl⟩ := num_map hd
    have hm : k ∈ ks := List.mem_of_getElem? hi
    have new : k.1 ∉ (ks.take i).map Prod.fst := by
      rw [List.map_take]
      exact not_taken hk.kd (by rw [List.getElem?_map, hi]; rfl)
    have e2 : putK ((ks.take i).map kvB) (.inr k.1) (.bl k.2) = (ks.take (i + 1)).map kvB := by
      rw [take_map hi]
      refine put_new fun kv hkv e => new ?_
      obtain ⟨y, hy, rfl⟩ := List.mem_map.mp hkv
      have e3 : y.1 = k.1 := Sum.inr.inj e
      exact List.mem_map.mpr ⟨y, hy, e3⟩
    refine ⟨_, [2, 3], tg_tup2 (by decide) (by decide), ?_⟩
    refine nx_seq (nx_ifF (et_orF (et_notT (et_B (ev_call (ea_cons (ev_var rfl) ea_nil) ⟨_, rfl, rfl, rfl⟩))) (et_orF (et_notT (et_B (ev_call (ea_cons (ev_op (ev_var rfl) ev_int (oo_ixT rfl)) ea_nil) ⟨_, rfl, hk.kn k hm, rfl⟩)))
      (et_orF (et_notT (et_B (ev_isi (ev_op (ev_var rfl) ev_int (oo_ixT rfl)) ki_bb))) (et_B (EvD.of (ev_din rfl (.inl rfl) (ev_op (ev_var rfl) ev_int (oo_ixT rfl))) (by rw [val_kv, decide_eq_false new])))))) (nx_next ?_))
    refine nx_dput (v := .bl k.2) rfl rfl ?_ (ev_op (ev_var rfl) ev_int (oo_ixT rfl)) (fun G u h => dp_bool h) (ev_op (ev_var rfl) ev_int (oo_ixT rfl)) ?_
    · rw [List.length_map, List.length_take]
      have := hk.l6
      omega
    · rw [e2]
      exact nx_kx rfl (.same (.same (.un (.un .nil))))
  · intro σ G2 H2 E2
    rw [numbered_len, List.length_map, List.take_length] at E2
    obtain ⟨o, e, a, rfl, h0, hg, ha⟩ := E2.sl 1 _ rfl
    exact ⟨.ref a, e, q a G2 H2 E2.fr hg h0 ha⟩
theorem nx_kinds {C : Cn} {Γ : List Sl} {te : TE} {i : Nat} {ks : List (Str × Bool)} {E : XK} {nx bk ct : St → Hp → Prop} {rt : VK} (h : EvD C te Γ (.list (ks.map eK))) (ok : KindsOk ks) (k : Nx C (Γ.set i (.dic (ks.map kvB))) nx) :
    Nx C Γ (tAsg (tCall (kindSp C.K) [] E (tCons te tNil)) (gName i) ⟨nx, rt, bk, ct⟩) := fun σ G H Em => by
  refine h σ G H Em _ fun v d G2 H2 p f iv hv => ?_
  subst p
  have E2 := Em.stepM f iv
  refine ⟨G2, ks, f.gh, dpa_one hv, ok, fun a G3 H3 f3 g3 h2 h3 => ?_⟩
  exact k _ G3 H3 ((E2.step f3).set ⟨a, rfl, E2.h0 h2, g3, h3⟩)
/-- look_at_letters reads a dict -/
structure LetsOk (kn : List Str) (ls : List Pr) : Prop where
  l1 : 1 ≤ ls.length
  l4 : ls.length ≤ 4
  lt : ∀ p ∈ ls, IsLet p.1 ∧ p.2 ∈ kn
  nd : (ls.map Prod.fst).Nodup
def letSp (K : PySem.W.Frag) : Sp := fun vs H Q _ => ∃ (G : Hp) (ls : List Pr) (n : Int) (ks : List (Str × Bool)) (v1 v2 : V) (a : Addr), vs = [v1, v2, .ref a] ∧ Same G H ∧ Dq K G v1 (.list (ls.map eP)) ∧ Dq K G v2 (.int n) ∧ H a = some (.dK (ks.map kvB)) ∧
  LetsOk (ks.map Prod.fst) ls ∧ ∀ v G2 H2, Fr M0 G H G2 H2 → Dq K G2 v (eS (ls.map Prod.fst)) → Q v H2
theorem ev_letters {C : Cn} {Γ : List Sl} {t1 t2 : TE} {i : Nat} {ls : List Pr} {n : Int} {ks : List (Str × Bool)} {E : XK} (h1 : EvD C t1 Γ (.list (ls.map eP))) (h2 : EvD C t2 Γ (.int n)) (hi : Γ[i]? = some (.dic (ks.map kvB))) (ok : LetsOk (ks.map Prod.fst) ls) :
    EvD C (tCall (letSp C.K) [] E (tCons t1 (tCons t2 (tCons (tVar i) tNil)))) Γ (eS (ls.map Prod.fst)) := fun σ G H Em Q q => by
  refine h1 σ G H Em _ fun v1 d G2 H2 p f iv hv => ?_
  subst p
  have E2 := Em.stepM f iv
  refine h2 σ G2 H2 E2 _ fun v2 d G3 H3 p f2 iv2 hv2 => ?_
  subst p
  have E3 := E2.stepM f2 iv2
  obtain ⟨a, e, _, ha⟩ := E3.dict hi (.inl rfl)
  refine ⟨.ref a, e, G3, ls, n, ks, v1, v2, a, rfl, f2.gh, Dq.mono f2.gg _ _ hv, hv2, ha, ok, fun v G4 H4 f3 h4 => ?_⟩
  exact q v _ G4 H4 rfl ((f.transM f2).trans0 f3) (C.hI _ _ (fun a o _ e => f3.hh a o (fun z => z) e) iv2) h4
abbrev N_look_at_letters : List Str := ["letters", "at", "kinds", "found", "place", "row"]
abbrev P_look_at_letters : List Str := ["letters", "at", "kinds"]
theorem sc_look_at_letters : FnScope N_look_at_letters P_look_at_letters (defScope (topS 21)) := ⟨rfl, rfl, rfl, by decide +kernel, rfl, by decide +kernel, by decide +kernel⟩
theorem ok_look_at_letters (T : Tx w K mg) (F : FnP K "look_at_letters" 21 [] f fd) (Dis_list_of : Kd P w K mg base "is_list_of" P_is_list_of (pureSp K R_is_list_of) 1) (Dis_pair : Kd P w K mg base "is_pair" P_is_pair (pureSp K R_is_pair) 1)
    (Dis_letter : Kd P w K mg base "is_letter" P_is_letter (pureSp K R_is_letter) 1) : FnOk P w K mg base CX0 2 f fd P_look_at_letters (letSp K) := by
  have nd := sc_look_at_letters.nd
  refine own_fn F sc_look_at_letters (fun vs H Q E ⟨_, _, _, _, _, _, _, e, _⟩ => e ▸ rfl) fun cdv A outer s H E hr => ⟨_, (pss_cons (ps_if (pt_not (pt_val (pe_df Dis_list_of (hr.mono (by decide)) (by rfl) (pa_cons (pv 0) (pa_cons (gint T.gMOST_LETTERS) pa_nil))))) (pss_one ps_never) pss_nil)
      (pss_cons (ps_set (i := 3) nd rfl (Or.inl rfl) (pe_lst pa_nil))
      (pss_cons (ps_for PassesOwn.never rfl (pi_enum (by rfl) T.enumerate (pa_cons (pv 0) pa_nil)) (pg_tup rfl (pgs_cons (pg_name (i := 4) nd rfl (Or.inl rfl)) (pgs_cons (pg_name (i := 5) nd rfl (Or.inl rfl)) pgs_nil))) (pss_cons (ps_if (PW.pt (pw_or (pt_not (pt_val (pe_df Dis_pair (hr.mono (by decide)) (by rfl) (pa_cons (pv 5) pa_nil)))) (pw_or (pt_not (pt_val (pe_df Dis_letter (hr.mono (by decide)) (by rfl) (pa_cons (pe_ix ix_tup (pv 5) pe_int (fun _ _ => rfl)) pa_nil)))) (pw_or1 (pt_cmpR op_in_seq (pe_ix ix_tup (pv 5) pe_int (fun _ _ => rfl)) (pv 3) (by rfl)))))) (pss_one ps_never) pss_nil)
        (pss_cons (ps_if (PW.pt (pw_or (pt_not (pt_val (pe_callB call_isi (by rfl) T.isinstance (by decide +kernel) (pa_cons (pe_ix ix_tup (pv 5) pe_int (fun _ _ => rfl)) (pa_cons (pe_bltn (v := .ty "str") (by rfl) T.str (by decide +kernel) rfl) pa_nil))))) (pw_or1 (pt_cmp (pc_dnotin (hu_of hr) (pe_ix ix_tup (pv 5) pe_int (fun _ _ => rfl)) (pv 2)))))) (pss_one ps_never) pss_nil)
        (pss_one (ps_expr (pe_bm PySem.F.plainAttrs_list PySem.F.slot_list_append PySem.F.type_list_append mt_append (pv 3) (pa_cons (pe_ix ix_tup (pv 5) pe_int (fun _ _ => rfl)) pa_nil)))))))
      (pss_one (ps_ret (pv 3)))))), fun vs H Q ⟨G, ls, n, ks, v1, v2, a, ev, sg, h1, h2, ha, hk, q⟩ => ?_⟩
  subst ev
  have st : Fm (Cp K G H) (start N_look_at_letters [v1, v2, .ref a]) [.dat (.list (ls.map eP)), .dat (.int n), .dir (ks.map kvB), .un, .un, .un] G H := ⟨Fr.refl sg, trivial, rfl, fun i s e => by
    match i, e with
    | 0, e => cases e; exact ⟨_, rfl, v1, rfl, h1⟩
    | 1, e => cases e; exact ⟨_, rfl, v2, rfl, h2⟩
    | 2, e => cases e; exact ⟨_, rfl, a, rfl, fun z => z, ha⟩
    | 3, e => cases e; exact ⟨_, rfl, trivial⟩
    | 4, e => cases e; exact ⟨_, rfl, trivial⟩
    | 5, e => cases e; exact ⟨_, rfl, trivial⟩
    | n + 6, e => exact nomatch e⟩
  refine (?_ : Nx (Cp K G H) _ _) _ G H st
  refine nx_seq (nx_ifF (et_notT (et_B (ev_call (ea_cons (ev_var rfl) (ea_cons ev_int ea_nil)) ⟨_, _, rfl, by rw [List.length_map]; exact hk.l1, by rw [List.length_map]; have := hk.l4; omega, rfl⟩))) (nx_next ?_))
  refine nx_seq (nx_own ?_)
  refine nx_seq (nx_forD (fun i => [.dat (.list (ls.map eP)), .dat (.int n), .dir (ks.map kvB), .own (((ls.take i).map Prod.fst).map .str), .un, .un]) (wk_enum (ea_cons (ev_var rfl) ea_nil)) (.same (.same (.same (.same (.same (.same .nil)))))) (fun i d G1 hd => ?_) ?_)
  · obtain ⟨p, hi, rfl⟩ := num_map hd
    have hm : p ∈ ls := List.mem_of_getElem? hi
    have new : p.1 ∉ (ls.take i).map Prod.fst := by
      rw [List.map_take]
      exact not_taken hk.nd (by rw [List.getElem?_map, hi]; rfl)
    refine ⟨_, [4, 5], tg_tup2 (by decide) (by decide), ?_⟩
    refine nx_seq (nx_ifF (et_orF (et_notT (et_B (ev_call (ea_cons (ev_var rfl) ea_nil) ⟨_, rfl, rfl, rfl⟩))) (et_orF (et_notT (et_B (ev_call (ea_cons (ev_op (ev_var rfl) ev_int (oo_ixT rfl)) ea_nil) ⟨_, rfl, (hk.lt p hm).1, rfl⟩)))
      (et_test (EvD.of (ev_inOwn (ev_op (ev_var rfl) ev_int (oo_ixT rfl)) rfl) (by rw [decide_eq_false new]; rfl))))) (nx_next ?_))
    refine nx_seq (nx_ifF (et_orF (et_notT (et_B (ev_isi (ev_op (ev_var rfl) ev_int (oo_ixT rfl)) ki_ss))) (et_B (EvD.of (ev_dnotin rfl (.inr rfl) (ev_op (ev_var rfl) ev_int (oo_ixT rfl))) (by rw [val_kv, decide_eq_true (hk.lt p hm).2]; rfl)))) (nx_next ?_))
    refine nx_appD rfl rfl ?_ (ev_op (ev_var rfl) ev_int (oo_ixT rfl)) ?_
    · rw [List.length_map, List.length_map, List.length_take]
      have := hk.l4
      omega
    · refine nx_kx rfl ?_
      rw [take_map hi, List.map_append]
      exact .same (.same (.same (.same (.un (.un .nil)))))
  · rw [numbered_len, List.length_map, List.take_length]
    refine nx_freeze (i := 3) rfl rfl ?_
    exact nx_out (ev_var rfl) q

abbrev N_look_at_steps : List Str := ["steps", "at", "letters", "place", "step", "used", "letter", "deed"]
abbrev P_look_at_steps : List Str := ["steps", "at", "letters"]
theorem sc_look_at_steps : FnScope N_look_at_steps P_look_at_steps (defScope (topS 22)) := ⟨rfl, rfl, rfl, by decide +kernel, rfl, by decide +kernel, by decide +kernel⟩
def R_look_at_steps (ds : List PyData) (z : PyData) : Prop := ∃ (ps : List Pr) (n : Int) (ns : List Str), ds = [.list (ps.map eP), .int n, eS ns] ∧ 1 ≤ ps.length ∧ ps.length ≤ 8 ∧ (∀ p ∈ ps, p.1 ∈ dds ∧ IsLet p.2 ∧ p.2 ∈ ns) ∧ (∀ l ∈ ns, l ∈ ps.map Prod.snd) ∧ z = .none
theorem ok_look_at_steps (T : Tx w K mg) (F : FnP K "look_at_steps" 22 [] f fd) (Dis_list_of : Kd P w K mg base "is_list_of" P_is_list_of (pureSp K R_is_list_of) 1) (Dis_pair : Kd P w K mg base "is_pair" P_is_pair (pureSp K R_is_pair) 1)
    (Dis_letter : Kd P w K mg base "is_letter" P_is_letter (pureSp K R_is_letter) 1) : FnOk P w K mg base CX0 2 f fd P_look_at_steps (pureSp K R_look_at_steps) := by
  have nd := sc_look_at_steps.nd
  refine pure_fn F sc_look_at_steps (fun ds z ⟨_, _, _, e, _⟩ => e ▸ rfl) fun cdv A outer s H E hr => ⟨_, (pss_cons (ps_if (pt_not (pt_val (pe_df Dis_list_of (hr.mono (by decide)) (by rfl) (pa_cons (pv 0) (pa_cons (gint T.gMOST_STEPS) pa_nil))))) (pss_one ps_never) pss_nil)
      (pss_cons (ps_for PassesOwn.never rfl (pi_enum (by rfl) T.enumerate (pa_cons (pv 0) pa_nil)) (pg_tup rfl (pgs_cons (pg_name (i := 3) nd rfl (Or.inl rfl)) (pgs_cons (pg_name (i := 4) nd rfl (Or.inl rfl)) pgs_nil))) (pss_cons (ps_if (PW.pt (pw_or (pt_not (pt_val (pe_df Dis_pair (hr.mono (by decide)) (by rfl) (pa_cons (pv 4) pa_nil)))) (pw_or (pt_not (pt_val (pe_callB call_isi (by rfl) T.isinstance (by decide +kernel) (pa_cons (pe_ix ix_tup (pv 4) pe_int (fun _ _ => rfl)) (pa_cons (pe_bltn (v := .ty "str") (by rfl) T.str (by decide +kernel) rfl) pa_nil))))) (pw_or1 (pt_cmpR op_notIn_seq (pe_ix ix_tup (pv 4) pe_int (fun _ _ => rfl)) (gref T.gDEEDS) (by rfl)))))) (pss_one ps_never) pss_nil)
        (pss_one (ps_if (PW.pt (pw_or (pt_not (pt_val (pe_df Dis_letter (hr.mono (by decide)) (by rfl) (pa_cons (pe_ix ix_tup (pv 4) pe_int (fun _ _ => rfl)) pa_nil)))) (pw_or1 (pt_cmpR op_notIn_seq (pe_ix ix_tup (pv 4) pe_int (fun _ _ => rfl)) (pv 2) (by rfl))))) (pss_one ps_never) pss_nil))))
      (pss_cons (ps_setLc (i := 5) (own := [("deed", 7), ("letter", 6)]) (g := gTup K 2 (gCons (gName 7) (gCons (gName 6) (gNil)))) (tt := tYes) rfl nd rfl rfl (sw_true rfl rfl rfl (by decide +kernel)) (pi_list (pv 0)) (blkOk_by (N := N_look_at_steps) (sc := defScope (topS 22)) (by decide +kernel)) (fun _ _ _ _ _ => (pg_tup rfl (pgs_cons (pg_name (i := 7) nd rfl (Or.inl rfl)) (pgs_cons (pg_name (i := 6) nd rfl (Or.inl rfl)) pgs_nil)))) (fun _ _ _ _ _ => pts_nil) (fun _ _ _ _ _ => (pv 6)))
      (pss_one (ps_for PassesOwn.never rfl (pi_enum (by rfl) T.enumerate (pa_cons (pv 2) pa_nil)) (pg_tup rfl (pgs_cons (pg_name (i := 3) nd rfl (Or.inl rfl)) (pgs_cons (pg_name (i := 6) nd rfl (Or.inl rfl)) pgs_nil))) (pss_one (ps_if (pt_cmpR op_notIn_seq (pv 6) (pv 5) (by rfl)) (pss_one ps_never) pss_nil))))))), fun G H ds z Q hR q => ?_⟩
  obtain ⟨ps, n, ns, rfl, l1, l8, hp, hu, rfl⟩ := hR
  refine nx_seq (nx_ifF (et_notT (et_B (ev_call (ea_cons (ev_var rfl) (ea_cons ev_int ea_nil)) ⟨_, _, rfl, by rw [List.length_map]; exact l1, by rw [List.length_map]; omega, rfl⟩))) (nx_next ?_))
  refine nx_seq (nx_forD (fun _ => [.dat (.list (ps.map eP)), .dat (.int n), .dat (eS ns), .un, .un, .un, .un, .un]) (wk_enum (ea_cons (ev_var rfl) ea_nil)) (.same (.same (.same (.same (.same (.same (.same (.same .nil)))))))) (fun i d G1 hd => ?_) ?_)
  · obtain ⟨p, hi, rfl⟩ := num_map hd
    obtain ⟨h1, h2, h3⟩ := hp p (List.mem_of_getElem? hi)
    refine ⟨_, [3, 4], tg_tup2 (by decide) (by decide), ?_⟩
    refine nx_seq (nx_ifF (et_orF (et_notT (et_B (ev_call (ea_cons (ev_var rfl) ea_nil) ⟨_, rfl, rfl, rfl⟩))) (et_orF (et_notT (et_B (ev_isi (ev_op (ev_var rfl) ev_int (oo_ixT rfl)) ki_ss)))
      (et_test (EvD.of (ev_inG dds (ev_op (ev_var rfl) ev_int (oo_ixT rfl))) (by rw [decide_eq_true h1]; rfl))))) (nx_next ?_))
    refine nx_ifF (et_orF (et_notT (et_B (ev_call (ea_cons (ev_op (ev_var rfl) ev_int (oo_ixT rfl)) ea_nil) ⟨_, rfl, h2, rfl⟩)))
      (et_test (EvD.of (ev_op (ev_op (ev_var rfl) ev_int (oo_ixT rfl)) (ev_var rfl) oo_inS) (by rw [decide_eq_true h3]; rfl)))) (nx_next ?_)
    exact nx_kx rfl (.same (.same (.same (.un (.un (.same (.same (.same .nil))))))))
  · refine nx_seq (nx_asgD (ev_lc (fun p : Pr => .str p.2) (wk_list (ev_var rfl)) (by omega) fun p hm => ⟨_, tg_tup2 (by decide) (by decide), ev_var rfl⟩) ?_)
    refine nx_forD (fun _ => [.dat (.list (ps.map eP)), .dat (.int n), .dat (eS ns), .un, .un, .dat (.list (ps.map fun p : Pr => PyData.str p.2)), .un, .un]) (wk_enum (ea_cons (ev_var rfl) ea_nil)) (.same (.same (.same (.same (.same (.same (.same (.same .nil)))))))) (fun i d G1 hd => ?_) ?_
    · obtain ⟨l, hi, rfl⟩ := num_map hd
      have h1 := hu l (List.mem_of_getElem? hi)
      have e : (ps.map fun p => PyData.str p.2) = (ps.map Prod.snd).map PyData.str := by
        rw [List.map_map]
        rfl
      refine ⟨_, [3, 6], tg_tup2 (by decide) (by decide), ?_⟩
      rw [e]
      refine nx_ifF (et_test (EvD.of (ev_op (ev_var rfl) (ev_var rfl) oo_inS) (by rw [decide_eq_true h1]; rfl))) (nx_next ?_)
      exact nx_kx rfl (.same (.same (.same (.un (.same (.same (.un (.same .nil))))))))
    · exact nx_fall q

abbrev N_look_at_book : List Str := ["thing", "kinds", "names", "at", "dealing"]
abbrev P_look_at_book : List Str := ["thing"]
theorem sc_look_at_book : FnScope N_look_at_book P_look_at_book (defScope (topS 23)) := ⟨rfl, rfl, rfl, by decide +kernel, rfl, by decide +kernel, by decide +kernel⟩
def R_look_at_book (ds : List PyData) (z : PyData) : Prop := ∃ b : Book, ds = [eB b] ∧ WB b ∧ z = .none
theorem ok_look_at_book (T : Tx w K mg) (F : FnP K "look_at_book" 23 [] f fd) (Dis_list_of : Kd P w K mg base "is_list_of" P_is_list_of (pureSp K R_is_list_of) 1) (Dis_pair : Kd P w K mg base "is_pair" P_is_pair (pureSp K R_is_pair) 1)
    (Dis_name : Kd P w K mg base "is_name" P_is_name (pureSp K R_is_name) 2) (Dlook_at_kinds : Kd P w K mg base "look_at_kinds" P_look_at_kinds (kindSp K) 3) (Dlook_at_letters : Kd P w K mg base "look_at_letters" P_look_at_letters (letSp K) 2)
    (Dlook_at_steps : Kd P w K mg base "look_at_steps" P_look_at_steps (pureSp K R_look_at_steps) 2) : FnOk P w K mg base CX0 4 f fd P_look_at_book (pureSp K R_look_at_book) := by
  have nd := sc_look_at_book.nd
  refine pure_fn F sc_look_at_book (fun ds z ⟨_, e, _⟩ => e ▸ rfl) fun cdv A outer s H E hr => ⟨_, (pss_cons (ps_if (pt_not (pt_val (pe_df Dis_pair (hr.mono (by decide)) (by rfl) (pa_cons (pv 0) pa_nil)))) (pss_one ps_never) pss_nil)
      (pss_cons (ps_set (i := 1) nd rfl (Or.inl rfl) (pe_df Dlook_at_kinds (hr.mono (by decide)) (by rfl) (pa_cons (pe_ix ix_tup (pv 0) pe_int (fun _ _ => rfl)) pa_nil)))
      (pss_cons (ps_if (pt_not (pt_val (pe_df Dis_list_of (hr.mono (by decide)) (by rfl) (pa_cons (pe_ix ix_tup (pv 0) pe_int (fun _ _ => rfl)) (pa_cons (gint T.gMOST_DEALINGS) pa_nil))))) (pss_one ps_never) pss_nil)
      (pss_cons (ps_set (i := 2) nd rfl (Or.inl rfl) (pe_lst pa_nil))
      (pss_one (ps_for PassesOwn.never rfl (pi_enum (by rfl) T.enumerate (pa_cons (pe_ix ix_tup (pv 0) pe_int (fun _ _ => rfl)) pa_nil)) (pg_tup rfl (pgs_cons (pg_name (i := 3) nd rfl (Or.inl rfl)) (pgs_cons (pg_name (i := 4) nd rfl (Or.inl rfl)) pgs_nil))) (pss_cons (ps_if (PW.pt (pw_or (pt_not (pt_val (pe_callB call_isi (by rfl) T.isinstance (by decide +kernel) (pa_cons (pv 4) (pa_cons (pe_bltn (v := .ty "tuple") (by rfl) T.tuple (by decide +kernel) rfl) pa_nil))))) (pw_or (pt_cmpR op_ne (pe_callB call_len (by rfl) T.len (by decide +kernel) (pa_cons (pv 4) pa_nil)) pe_int (nomark _)) (pw_or (pt_not (pt_val (pe_df Dis_name (hr.mono (by decide)) (by rfl) (pa_cons (pe_ix ix_tup (pv 4) pe_int (fun _ _ => rfl)) pa_nil)))) (pw_or1 (pt_cmpR op_in_seq (pe_ix ix_tup (pv 4) pe_int (fun _ _ => rfl)) (pv 2) (by rfl))))))) (pss_one ps_never) pss_nil)
        (pss_cons (ps_expr (pe_bm PySem.F.plainAttrs_list PySem.F.slot_list_append PySem.F.type_list_append mt_append (pv 2) (pa_cons (pe_ix ix_tup (pv 4) pe_int (fun _ _ => rfl)) pa_nil)))
        (pss_one (ps_expr (pe_df Dlook_at_steps (hr.mono (by decide)) (by rfl) (pa_cons (pe_ix ix_tup (pv 4) pe_int (fun _ _ => rfl)) (pa_cons (pv 3) (pa_cons (pe_df Dlook_at_letters (hr.mono (by decide)) (by rfl) (pa_cons (pe_ix ix_tup (pv 4) pe_int (fun _ _ => rfl)) (pa_cons (pv 3) (pa_cons (pv 1) pa_nil)))) pa_nil)))))))))))))), fun G H ds z Q hR q => ?_⟩
  obtain ⟨b, rfl, wf, rfl⟩ := hR
  refine nx_seq (nx_ifF (et_notT (et_B (ev_call (ea_cons (ev_var rfl) ea_nil) ⟨_, rfl, rfl, rfl⟩))) (nx_next ?_))
  refine nx_seq (nx_kinds (ev_op (ev_var rfl) ev_int (oo_ixT rfl)) ⟨wf.k1, wf.k6, wf.kn, wf.kd⟩ ?_)
  refine nx_seq (nx_ifF (et_notT (et_B (ev_call (ea_cons (ev_op (ev_var rfl) ev_int (oo_ixT rfl)) (ea_cons ev_int ea_nil)) ⟨_, _, rfl, by rw [List.length_map]; exact wf.d1, by rw [List.length_map]; have := wf.d8; omega, rfl⟩))) (nx_next ?_))
  refine nx_seq (nx_own ?_)
  refine nx_forD (fun i => [.dat (eB b), .dic (b.1.map kvB), .own (((b.2.take i).map Prod.fst).map .str), .un, .un]) (wk_enum (ea_cons (ev_op (ev_var rfl) ev_int (oo_ixT rfl)) ea_nil)) (.same (.same (.same (.same (.same .nil))))) (fun i d G1 hd => ?_) ?_
  · obtain ⟨d, hi, rfl⟩ := num_map hd
    have hm : d ∈ b.2 := List.mem_of_getElem? hi
    have wd := wf.ds d hm
    have new : d.1 ∉ (b.2.take i).map Prod.fst := by
      rw [List.map_take]
      exact not_taken wf.dd (by rw [List.getElem?_map, hi]; rfl)
    refine ⟨_, [3, 4], tg_tup2 (by decide) (by decide), ?_⟩
    refine nx_seq (nx_ifF (et_orF (et_notT (et_B (ev_isi (ev_var rfl) ki_tt))) (et_orF (et_test (ev_lenNe (ev_var rfl) cb_lenT ev_int rfl)) (et_orF (et_notT (et_B (ev_call (ea_cons (ev_op (ev_var rfl) ev_int (oo_ixT rfl)) ea_nil) ⟨_, rfl, wd.name, rfl⟩)))
      (et_test (EvD.of (ev_inOwn (ev_op (ev_var rfl) ev_int (oo_ixT rfl)) rfl) (by rw [decide_eq_false new]; rfl)))))) (nx_next ?_))
    refine nx_seq (nx_appD rfl rfl ?_ (ev_op (ev_var rfl) ev_int (oo_ixT rfl)) ?_)
    · rw [List.length_map, List.length_map, List.length_take]
      have := wf.d8
      omega
    · refine nx_drop (ev_call (ea_cons (ev_op (ev_var rfl) ev_int (oo_ixT rfl)) (ea_cons (ev_var rfl) (ea_cons (ev_letters (ls := d.2.1) (n := i) (ks := b.1) (ev_op (ev_var rfl) ev_int (oo_ixT rfl)) (ev_var rfl) rfl ⟨wd.l1, wd.l4, wd.lt, wd.nd⟩) ea_nil))) (z := .none)
        ⟨_, _, _, rfl, wd.s1, wd.s8, fun p hp => ⟨(wd.st p hp).1, ?_, (wd.st p hp).2⟩, wd.us, rfl⟩) ?_
      · obtain ⟨y, hy, e⟩ := List.mem_map.mp (wd.st p hp).2
        rw [← e]
        exact (wd.lt y hy).1
      · refine nx_kx rfl ?_
        rw [take_map hi, List.map_append]
        exact .same (.same (.same (.un (.un .nil))))
  · exact nx_fall q
end
end SN

/-! SN: own things inside a tuple: what grows. -/
namespace SN
open PySem L2
structure Gw (M : Addr → Prop) (G H G2 H2 : Hp) : Prop where
  gg : Same G G2
  gh : Same G2 H2
  hh : ∀ a o, ¬ M a → H a = some o → H2 a = some o
  fr : ∀ a o u, G2 a = some o → H a = some u → (∃ z, G a = some z) ∨ M a
  live : ∀ a o, H a = some o → ∃ u, H2 a = some u
theorem Fr.gw {M : Addr → Prop} {G H G2 H2 : Hp} (f : Fr M G H G2 H2) : Gw M G H G2 H2 := ⟨f.gg, f.gh, f.hh, fun a o u e e0 => .inl (f.fr a o u e e0), f.live⟩
theorem Fr.then {M : Addr → Prop} {G H G1 H1 G2 H2 : Hp} (f : Fr M0 G H G1 H1) (g : Gw M G1 H1 G2 H2) : Gw M G H G2 H2 where
  gg := f.gg.trans g.gg
  gh := g.gh
  hh := fun a o n e => g.hh a o n (f.hh a o (fun z => z) e)
  fr := fun a o u e e0 => by
    obtain ⟨x, ex⟩ := f.live a u e0
    rcases g.fr a o x e ex with ⟨z, ez⟩ | m
    · exact .inl (f.fr a z u ez e0)
    · exact .inr m
  live := fun a o e => by
    obtain ⟨x, ex⟩ := f.live a o e
    exact g.live a x ex
theorem Gw.then {M : Addr → Prop} {G H G1 H1 G2 H2 : Hp} (g : Gw M G H G1 H1) (f : Fr M0 G1 H1 G2 H2) : Gw M G H G2 H2 where
  gg := g.gg.trans f.gg
  gh := f.gh
  hh := fun a o n e => f.hh a o (fun z => z) (g.hh a o n e)
  fr := fun a o u e e0 => by
    obtain ⟨x, ex⟩ := g.live a u e0
    obtain ⟨z, ez⟩ := f.fr a o x e ex
    exact g.fr a z u ez e0
  live := fun a o e => by
    obtain ⟨x, ex⟩ := g.live a o e
    exact f.live a x ex
/-- a list is written -/
theorem Gw.put {G H : Hp} {l : Addr} {o u : HO} (s : Same G H) (hl : H l = some u) (g : G l = none) : Gw (fun a => a = l) G H G (upd H l o) where
  gg := Same.refl G
  gh := fun a x e => by
    have : a ≠ l := fun q => by rw [q, g] at e; cases e
    rw [upd_ne this]
    exact s a x e
  hh := fun a x n e => by rw [upd_ne n]; exact e
  fr := fun a x y e _ => .inl ⟨x, e⟩
  live := fun a x e => by
    by_cases h : a = l
    · exact ⟨o, by rw [h]; exact upd_same⟩
    · exact ⟨x, by rw [upd_ne h]; exact e⟩
/-- a list is known from now on -/
theorem Gw.keep {G H : Hp} {l : Addr} {o : HO} (s : Same G H) (hl : H l = some o) (g : G l = none) : Gw (fun a => a = l) G H (upd G l o) H where
  gg := same_new g
  gh := fun a x e => by
    by_cases h : a = l
    · subst h
      rw [upd_same] at e
      cases e
      exact hl
    · rw [upd_ne h] at e
      exact s a x e
  hh := fun a x _ e => e
  fr := fun a x y e _ => by
    by_cases h : a = l
    · exact .inr h
    · rw [upd_ne h] at e
      exact .inl ⟨x, e⟩
  live := fun a x e => ⟨x, e⟩
theorem Gw.trans {M : Addr → Prop} {G H G1 H1 G2 H2 : Hp} (g : Gw M G H G1 H1) (f : Gw M G1 H1 G2 H2) : Gw M G H G2 H2 where
  gg := g.gg.trans f.gg
  gh := f.gh
  hh := fun a o n e => f.hh a o n (g.hh a o n e)
  fr := fun a o u e e0 => by
    obtain ⟨x, ex⟩ := g.live a u e0
    rcases f.fr a o x e ex with ⟨z, ez⟩ | m
    · exact g.fr a z u ez e0
    · exact .inr m
  live := fun a o e => by
    obtain ⟨x, ex⟩ := g.live a o e
    exact f.live a x ex
theorem Gw.weak {M M' : Addr → Prop} {G H G2 H2 : Hp} (g : Gw M G H G2 H2) (h : ∀ a, M a → M' a) : Gw M' G H G2 H2 :=
  ⟨g.gg, g.gh, fun a o n e => g.hh a o (fun m => n (h a m)) e, fun a o u e e0 => (g.fr a o u e e0).imp_right (h a), g.live⟩
section
variable {C : Cn} {Γ : List Sl} {nx bk ct : St → Hp → Prop} {rt : VK}
/-- lists of one's own grow at the slot i -/
theorem Fm.grow {M : Addr → Prop} {σ : St} {G H G2 H2 : Hp} {i : Nat} {s : Sl} {o : Option V} (E : Fm C σ Γ G H) (g : Gw M G H G2 H2) (hm : ∀ a, M a → C.H0 a = none ∧ ∃ xs, H a = some (.lst xs)) (hi : i < Γ.length) (hu : lone Γ i = true) (eo : σ[i]? = some o) (ok : SlOk C G2 H2 s o) :
    Fm C σ (Γ.set i s) G2 H2 where
  fr := {
    gg := E.fr.gg.trans g.gg
    gh := g.gh
    hh := fun a o n e => g.hh a o (fun m => by rw [(hm a m).1] at e; cases e) (E.fr.hh a o n e)
    fr := fun a o u e e0 => by
      obtain ⟨x, ex⟩ := E.fr.live a u e0
      rcases g.fr a o x e ex with ⟨z, ez⟩ | m
      · exact E.fr.fr a z u ez e0
      · rw [(hm a m).1] at e0
        cases e0
    live := fun a o e => by
      obtain ⟨x, ex⟩ := E.fr.live a o e
      exact g.live a x ex }
  inv := C.hI _ _ (fun a o m e => g.hh a o (fun z => C.young (hm a z).1 m) e) E.inv
  len := by rw [List.length_set]; exact E.len
  sl := fun j t ej => by
    by_cases hj : i = j
    · subst hj
      rw [List.getElem?_set_self hi] at ej
      cases ej
      exact ⟨o, eo, ok⟩
    · rw [List.getElem?_set_ne hj] at ej
      obtain ⟨p, ep, hs⟩ := E.sl j t ej
      refine ⟨p, ep, ?_⟩
      have no : isOwn t = true → False := fun z => by
        have q : (Γ.set i .un)[j]? = some t := by rw [List.getElem?_set_ne hj]; exact ej
        have q2 := List.all_eq_true.mp hu _ (List.mem_of_getElem? q)
        rw [z] at q2
        cases q2
      have nd : ∀ a kvs, H a = some (.dK kvs) → ¬ M a := fun a kvs e m => by
        obtain ⟨_, xs, ex⟩ := hm a m
        rw [ex] at e
        cases e
      cases t with
      | un => trivial
      | dat d =>
        obtain ⟨v, ev, hv⟩ := hs
        exact ⟨v, ev, Dq.mono g.gg d v hv⟩
      | own ys => exact (no rfl).elim
      | dic kvs =>
        obtain ⟨a, ea, a0, ag, ha⟩ := hs
        refine ⟨a, ea, a0, ?_, g.hh a _ (nd a _ ha) ha⟩
        cases e : G2 a with
        | none => rfl
        | some x =>
          rcases g.fr a x _ e ha with ⟨z, ez⟩ | m
          · rw [ag] at ez
            cases ez
          · exact (nd a _ ha m).elim
      | dir kvs =>
        obtain ⟨a, ea, a0, ha⟩ := hs
        exact ⟨a, ea, a0, g.hh a _ (nd a _ ha) ha⟩
      | adr p => exact hs
      | spc S => exact (no rfl).elim
      | pol p =>
        obtain ⟨ep, m, gp, u, hu⟩ := hs
        have np : ¬ M p := fun q => C.young (hm p q).1 m
        refine ⟨ep, m, ?_, g.live p u hu⟩
        cases q : G2 p with
        | none => rfl
        | some x =>
          rcases g.fr p x u q hu with ⟨z, ez⟩ | q
          · rw [gp] at ez
            cases ez
          · exact (np q).elim
/-! ### a tuple of data and a list that grows -/
def prt (K : PySem.W.Frag) (d0 : PyData) (ds : List PyData) : Spc where
  ok := fun H0 G H v => ∃ t v0 l vs, v = .ref t ∧ G t = some (.tup [v0, .ref l]) ∧ Dq K G v0 d0 ∧ H0 l = none ∧ G l = none ∧ H l = some (.lst vs) ∧ DqAll K G vs ds
  step := fun M H0 G H G2 H2 v hM f ⟨t, v0, l, vs, e, gt, h0, hl0, gl, hl, ha⟩ => by
    refine ⟨t, v0, l, vs, e, f.gg _ _ gt, Dq.mono f.gg _ _ h0, hl0, ?_, f.hh l _ (hM l vs hl0 hl) hl, Dq.monoAll f.gg _ _ ha⟩
    cases q : G2 l with
    | none => rfl
    | some x =>
      obtain ⟨z, ez⟩ := f.fr l x _ q hl
      rw [gl] at ez
      cases ez
variable {te : TE} {d0 d : PyData} {ds : List PyData}
theorem nx_prt {i : Nat} (h : EvD C te Γ d0) (k : Nx C (Γ.set i (.spc (prt C.K d0 []))) nx) : Nx C Γ (tAsg (tTup (tCons te (tCons (tLst tNil) tNil))) (gName i) ⟨nx, rt, bk, ct⟩) := fun σ G H E => by
  refine h σ G H E _ fun v d G2 H2 p f iv hv => ?_
  subst p
  have E2 := E.stepM f iv
  refine ⟨Nat.zero_le _, fun l hl => ⟨by show 2 ≤ sizeLine; decide, fun t ht => ?_⟩⟩
  have f2 : Fr M0 G2 H2 G2 (upd H2 l (.lst [])) := Fr.newU f.gh hl
  have f3 : Fr M0 G2 (upd H2 l (.lst [])) (upd G2 t (.tup [v, .ref l])) (upd (upd H2 l (.lst [])) t (.tup [v, .ref l])) := Fr.new f2.gh ht
  have tl : l ≠ t := fun q => by
    rw [← q, upd_same] at ht
    cases ht
  have gl : G2 l = none := none_of f.gh hl
  refine k _ _ _ (((E2.step f2).step f3).set ⟨.ref t, rfl, t, v, l, [], rfl, upd_same, Dq.mono f3.gg _ _ hv, E2.h0 hl, ?_, ?_, .nil⟩)
  · rw [upd_ne tl]; exact gl
  · rw [upd_ne tl]; exact upd_same
/-- found[1].append(e) -/
theorem nx_prtApp {i : Nat} (hi : Γ[i]? = some (.spc (prt C.K d0 ds))) (hu : lone Γ i = true) (hl : ds.length ≤ 1000) (h : EvD C te Γ d) (k : Nx C (Γ.set i (.spc (prt C.K d0 (ds ++ [d])))) nx) :
    Nx C Γ (tDrop (tBM C.K "list" rAppend (tOp (rIxT C.K) (tVar i) (tC (.int 1))) (tCons te tNil)) ⟨nx, rt, bk, ct⟩) := fun σ G H E => by
  obtain ⟨o, e, v, rfl, t, v0, l, vs, rfl, gt, hv0, hl0, gl, hH, ha⟩ := E.sl i _ hi
  refine ⟨.ref t, e, t, [v0, .ref l], 1, .ref l, rfl, rfl, .of (E.fr.gh _ _ gt), rfl, .inl ⟨rfl, _, .of hH⟩, ?_⟩
  refine h σ G H E _ fun v d G2 H2 p f iv hv => ?_
  subst p
  have E2 := E.stepM f iv
  obtain ⟨o', e', v', rfl, t', v0', l', vs', rfl, gt', hv0', hl0', gl', hH', ha'⟩ := E2.sl i _ hi
  rw [e] at e'
  cases e'
  have q := f.gg _ _ gt
  rw [gt'] at q
  cases q
  obtain ⟨hlt, _⟩ := List.getElem?_eq_some_iff.mp hi
  refine ⟨l, vs', v, rfl, rfl, hH', small1000 (by rw [dpa_len ha']; exact hl), k σ G2 _ (E2.grow (M := fun a => a = l) (Gw.put f.gh hH' gl') (fun a m => by subst m; exact ⟨hl0, _, hH'⟩) hlt hu e ⟨.ref t, rfl, t, v0, l, _, rfl, gt', hv0', hl0, gl', upd_same, dpa_app ha' (dpa_one hv)⟩)⟩
/-- and is data in the end -/
theorem nx_prtDone {i : Nat} {kk : St → Hp → Prop} (hi : Γ[i]? = some (.spc (prt C.K d0 ds))) (hu : lone Γ i = true) (k : Nx C (Γ.set i (.dat (.tuple [d0, .list ds]))) kk) : Nx C Γ kk := fun σ G H E => by
  obtain ⟨o, e, v, rfl, t, v0, l, vs, rfl, gt, hv0, hl0, gl, hH, ha⟩ := E.sl i _ hi
  obtain ⟨hlt, _⟩ := List.getElem?_eq_some_iff.mp hi
  have g := Gw.keep E.fr.gh hH gl
  refine k σ _ H (E.grow g (fun a m => by subst m; exact ⟨hl0, _, hH⟩) hlt hu e ⟨.ref t, rfl, .tup (g.gg _ _ gt) (.cons (Dq.mono g.gg _ _ hv0) (.cons (.lst upd_same (Dq.monoAll g.gg _ _ ha)) .nil))⟩)
end
end SN

/-! SN: data that may be compared. -/
namespace SN
open PySem L2

def Sd (n : Nat) (d : PyData) : Prop := d.canLay0 = true ∧ d.depth ≤ n
def SdA (n : Nat) (ds : List PyData) : Prop := PyData.canLayAll0 ds = true ∧ PyData.depthAll ds ≤ n
theorem sd_str {x : Str} (h : PyData.strOk x = true) : Sd 0 (.str x) := ⟨by rw [PyData.canLay0]; exact h, by rw [PyData.depth]; exact Nat.le_refl _⟩
theorem sd_bool {b : Bool} : Sd 0 (.bool b) := ⟨by rw [PyData.canLay0], by rw [PyData.depth]; exact Nat.le_refl _⟩
theorem sd_int {i : Int} : Sd 0 (.int i) := ⟨by rw [PyData.canLay0], by rw [PyData.depth]; exact Nat.le_refl _⟩
theorem sda_nil {n : Nat} : SdA n [] := ⟨by rw [PyData.canLayAll0], by rw [PyData.depthAll]; exact Nat.zero_le _⟩
theorem sda_cons {n m : Nat} {d : PyData} {ds : List PyData} (h : Sd m d) (hm : m ≤ n) (t : SdA n ds) : SdA n (d :: ds) :=
  ⟨by rw [PyData.canLayAll0, h.1, t.1]; rfl, by
    rw [PyData.depthAll]
    have h1 := h.2
    have h2 := t.2
    exact Nat.max_le.mpr ⟨Nat.le_trans h1 hm, h2⟩⟩
theorem sd_list {n : Nat} {ds : List PyData} (h : SdA n ds) : Sd (n + 1) (.list ds) := ⟨by rw [PyData.canLay0]; exact h.1, by rw [PyData.depth]; exact Nat.succ_le_succ h.2⟩
theorem sd_tup {n : Nat} {ds : List PyData} (h : SdA n ds) : Sd (n + 1) (.tuple ds) := ⟨by rw [PyData.canLay0]; exact h.1, by rw [PyData.depth]; exact Nat.succ_le_succ h.2⟩
theorem sda_map {α : Type} {n : Nat} {f : α → PyData} : ∀ {xs : List α}, (∀ x ∈ xs, Sd n (f x)) → SdA n (xs.map f)
  | [], _ => sda_nil
  | x :: xs, h => sda_cons (h x (List.mem_cons_self ..)) (Nat.le_refl _) (sda_map fun y hy => h y (List.mem_cons_of_mem _ hy))
theorem Sd.shaped {n : Nat} {d : PyData} (h : Sd n d) (hn : n ≤ 64) : SeqAt.shaped d = true := by
  unfold SeqAt.shaped
  rw [h.1, Bool.true_and]
  exact decide_eq_true (Nat.le_trans h.2 hn)
theorem Sd.eqv {n : Nat} {d : PyData} (h : Sd n d) : PyData.eqv d d = true := SeqAt.eqv_refl d h.1
theorem ok_alpha {x : Str} (h : ∀ c ∈ x.cps.toList, c ∈ alpha) : PyData.strOk x = true := by
  unfold PyData.strOk
  rw [← Array.all_toList]
  refine List.all_eq_true.mpr fun c hc => decide_eq_true ?_
  have := (alpha_lt c (h c hc)).2
  omega
theorem ok_name {x : Str} (h : IsName x) : PyData.strOk x = true := ok_alpha h.2.2
theorem ok_let {x : Str} (h : IsLet x) : PyData.strOk x = true := ok_name (let_name h)
theorem ok_dds {x : Str} (h : x ∈ dds) : PyData.strOk x = true := by
  have : ∀ x ∈ dds, PyData.strOk x = true := by decide +kernel
  exact this x h
theorem sd_pair {a b : PyData} {n m k : Nat} (h1 : Sd n a) (h2 : Sd m b) (k1 : n ≤ k) (k2 : m ≤ k) : Sd (k + 1) (.tuple [a, b]) := sd_tup (sda_cons h1 k1 (sda_cons h2 k2 sda_nil))
theorem sd_kinds {ks : List (Str × Bool)} (h : ∀ k ∈ ks, IsName k.1) : Sd 2 (.list (ks.map eK)) := sd_list (sda_map fun k hk => sd_pair (sd_str (ok_name (h k hk))) sd_bool (Nat.le_refl _) (Nat.le_refl _))
theorem sd_deal {d : Deal} (h1 : IsName d.1) (h2 : ∀ p ∈ d.2.1, IsLet p.1 ∧ IsName p.2) (h3 : ∀ p ∈ d.2.2, p.1 ∈ dds ∧ IsLet p.2) : Sd 3 (eD d) :=
  sd_tup (sda_cons (sd_str (ok_name h1)) (by decide) (sda_cons (sd_list (sda_map fun p hp => sd_pair (sd_str (ok_let (h2 p hp).1)) (sd_str (ok_name (h2 p hp).2)) (Nat.le_refl _) (Nat.le_refl _))) (Nat.le_refl _)
    (sda_cons (sd_list (sda_map fun p hp => sd_pair (sd_str (ok_dds (h3 p hp).1)) (sd_str (ok_let (h3 p hp).2)) (Nat.le_refl _) (Nat.le_refl _))) (Nat.le_refl _) sda_nil)))
/-- a book that may be compared: less than well formed -/
structure Cb (b : Book) : Prop where
  kn : ∀ k ∈ b.1, IsName k.1
  dl : ∀ d ∈ b.2, IsName d.1 ∧ (∀ p ∈ d.2.1, IsLet p.1 ∧ IsName p.2) ∧ ∀ p ∈ d.2.2, p.1 ∈ dds ∧ IsLet p.2
theorem Cb.dls {b : Book} (h : Cb b) : Sd 4 (.list (b.2.map eD)) := sd_list (sda_map fun d hd => sd_deal (h.dl d hd).1 (h.dl d hd).2.1 (h.dl d hd).2.2)
theorem Cb.sd {b : Book} (h : Cb b) : Sd 5 (eB b) := sd_pair (sd_kinds h.kn) h.dls (by decide) (by decide)
theorem wb_cb {b : Book} (h : WB b) : Cb b := ⟨h.kn, fun d hd => by
  have wd := h.ds d hd
  refine ⟨wd.name, fun p hp => ⟨(wd.lt p hp).1, ?_⟩, fun p hp => ⟨(wd.st p hp).1, ?_⟩⟩
  · obtain ⟨k, hk, e⟩ := List.mem_map.mp (wd.lt p hp).2
    rw [← e]
    exact h.kn k hk
  · obtain ⟨y, hy, e⟩ := List.mem_map.mp (wd.st p hp).2
    rw [← e]
    exact (wd.lt y hy).1⟩
theorem eqv_nil {ds : List PyData} (h : 1 ≤ ds.length) : PyData.eqv (.list ds) (.list []) = false := by
  cases ds with
  | nil => simp at h
  | cons d r => rw [PyData.eqv, PyData.eqvAll] <;> simp
end SN

/-! SN: called otherwise; put in another order. -/
namespace SN
open PySem L2
theorem pairs_zip {α β : Type} {f : α → PyData} {g : β → PyData} : ∀ (xs : List α) (ys : List β), pairs (xs.map f) (ys.map g) = (xs.zip ys).map fun p => .tuple [f p.1, g p.2]
  | [], _ => rfl
  | _ :: _, [] => rfl
  | x :: xs, y :: ys => by
    show PyData.tuple [f x, g y] :: pairs (xs.map f) (ys.map g) = _
    rw [pairs_zip xs ys]
    rfl
theorem trips_zip {α β γ : Type} {f : α → PyData} {g : β → PyData} {h : γ → PyData} : ∀ (xs : List α) (ys : List β) (zs : List γ), trips (xs.map f) (ys.map g) (zs.map h) = (xs.zip (ys.zip zs)).map fun p => .tuple [f p.1, g p.2.1, h p.2.2]
  | [], _, _ => rfl
  | _ :: _, [], _ => rfl
  | _ :: _, _ :: _, [] => rfl
  | x :: xs, y :: ys, z :: zs => by
    show PyData.tuple [f x, g y, h z] :: trips (xs.map f) (ys.map g) (zs.map h) = _
    rw [trips_zip xs ys zs]
    rfl
theorem zip_fst {α β γ : Type} {f : α → γ} : ∀ (xs : List α) (ys : List β), ((xs.zip ys).map fun p => (f p.1, p.2)) = (xs.map f).zip ys
  | [], _ => rfl
  | _ :: _, [] => rfl
  | x :: xs, y :: ys => by
    show (f x, y) :: ((xs.zip ys).map fun p => (f p.1, p.2)) = _
    rw [zip_fst xs ys]
    rfl
theorem fst_zip {α β : Type} : ∀ {xs : List α} {ys : List β}, ys.length = xs.length → (xs.zip ys).map Prod.fst = xs
  | [], _, _ => rfl
  | _ :: _, [], h => by simp at h
  | x :: xs, y :: ys, h => by
    show x :: (xs.zip ys).map Prod.fst = _
    rw [fst_zip (by simpa using h)]
theorem val_look {a v : List Str} (nd : a.Nodup) (hl : v.length = a.length) {x : Str} (hx : x ∈ a) : valV ((a.zip v).map kvS) (.inr x) = some (.str (look a v x)) := by
  obtain ⟨i, hi⟩ := List.mem_iff_getElem?.mp hx
  obtain ⟨y, hy⟩ := get_len hl hi
  rw [look_at nd hi hy]
  exact val_at (ps := a.zip v) (i := i) (p := (x, y)) (by rw [fst_zip hl]; exact nd) (by rw [List.getElem?_zip_eq_some]; exact ⟨hi, hy⟩)
section
variable {C : Cn} {Γ : List Sl} {ta : TA}
theorem wk_zipSM {α : Type} {f : α → PyData} {xs : List α} {y : Str} (h : EvAD C ta Γ [.list (xs.map f), .str y]) (hl : xs.length = y.length) : WkD C (iZipS ta) Γ ((xs.zip (sgn y)).map fun p => .tuple [f p.1, .str p.2]) := by
  rw [← pairs_zip]
  exact wk_zipS h (by rw [List.length_map]; exact hl)
theorem wk_zipM {α β : Type} {f : α → PyData} {g : β → PyData} {xs : List α} {ys : List β} (h : EvAD C ta Γ [.list (xs.map f), .list (ys.map g)]) : WkD C (iZip C.K ta) Γ ((xs.zip ys).map fun p => .tuple [f p.1, g p.2]) := by
  rw [← pairs_zip]
  exact wk_zip h
theorem wk_zip3M {α β γ : Type} {f : α → PyData} {g : β → PyData} {k : γ → PyData} {xs : List α} {ys : List β} {zs : List γ} (h : EvAD C ta Γ [.list (xs.map f), .list (ys.map g), .list (zs.map k)]) (l1 : ys.length = xs.length) (l2 : zs.length = xs.length) :
    WkD C (iZip3 ta) Γ ((xs.zip (ys.zip zs)).map fun p => .tuple [f p.1, g p.2.1, k p.2.2]) := by
  rw [← trips_zip]
  exact wk_zip3 h (by rw [List.length_map, List.length_map, l1]) (by rw [List.length_map, List.length_map, l2])
end
theorem zip_le {α β : Type} (xs : List α) (ys : List β) : (xs.zip ys).length ≤ xs.length := by
  rw [List.length_zip]
  omega
section
variable {P : Program} {w : World} {K : PySem.W.Frag} {mg : Str → Option Value} {base : Heap} {f : Addr} {fd : FuncData}
abbrev N_are_names : List Str := ["thing", "many", "name"]
abbrev P_are_names : List Str := ["thing", "many"]
theorem sc_are_names : FnScope N_are_names P_are_names (defScope (topS 27)) := ⟨rfl, rfl, rfl, by decide +kernel, rfl, by decide +kernel, by decide +kernel⟩
def R_are_names (ds : List PyData) (z : PyData) : Prop := ∃ (xs : List Str) (n : Int), ds = [eS xs, .int n] ∧ (xs.length : Int) = n ∧ xs.length ≤ 60 ∧ (∀ x ∈ xs, IsName x) ∧ xs.Nodup ∧ z = .bool true
theorem ok_are_names (T : Tx w K mg) (F : FnP K "are_names" 27 [] f fd) (Dis_name : Kd P w K mg base "is_name" P_is_name (pureSp K R_is_name) 2) : FnOk P w K mg base CX0 3 f fd P_are_names (pureSp K R_are_names) := by
  have nd := sc_are_names.nd
  refine pure_fn F sc_are_names (fun ds z ⟨_, _, e, _⟩ => e ▸ rfl) fun cdv A outer s H E hr => ⟨_, (pss_cons (ps_if (PW.pt (pw_or (pt_not (pt_val (pe_callB call_isi (by rfl) T.isinstance (by decide +kernel) (pa_cons (pv 0) (pa_cons (pe_bltn (v := .ty "list") (by rfl) T.list (by decide +kernel) rfl) pa_nil))))) (pw_or (pt_cmpR op_ne (pe_callB (r := fun xs H Q => ∃ x n, xs = [x] ∧ LenV K x H n ∧ Q (.int n) H) call_len (by rfl) T.len (by decide +kernel) (pa_cons (pv 0) pa_nil)) (pv 1) (nomark _)) (pw_or1 (pt_not (pt_val (pe_callB (cr_all rfl) (by rfl) T.all (by decide +kernel) (pa_cons (pe_lc (own := [("name", 2)]) (g := gName 2) (tt := tYes) rfl nd (pi_list (pv 0)) (blkOk_by (N := N_are_names) (sc := defScope (topS 27)) (by decide +kernel)) (fun _ _ _ _ _ => (pg_name (i := 2) nd rfl (Or.inl rfl))) (fun _ _ _ _ _ => pts_nil) (fun _ _ _ _ _ => (pe_df Dis_name (hr.mono (by decide)) (by rfl) (pa_cons (pv 2) pa_nil)))) pa_nil)))))))) (pss_one (ps_ret pe_bl)) pss_nil)
      (pss_one (ps_ret (pe_cmpR op_eq (pe_lenSetL (by rfl) T.len (by rfl) T.set (pv 0)) (pv 1) (nomark _))))), fun G H ds z Q hR q => ?_⟩
  obtain ⟨xs, n, rfl, en, hl, hx, hd, rfl⟩ := hR
  refine nx_seq (nx_ifF (et_orF (et_notT (et_B (ev_isi (ev_var rfl) ki_ll))) (et_orF (et_test (ev_lenNe (ev_var rfl) cb_lenL (ev_var rfl) (by rw [List.length_map]; exact en)))
    (et_notT (et_B (ev_all (ev_lc (xs := xs) (fun _ => .bool true) (wk_list (ev_var rfl)) (by omega) fun x hm => ⟨_, tg_name (by decide), ev_call (ea_cons (ev_var rfl) ea_nil) ⟨x, rfl, hx x hm, rfl⟩⟩)))))) (nx_next ?_))
  refine nx_out ?_ q
  exact EvD.of (ev_op (ev_lenSetL (ev_var rfl) hd hl) (ev_var rfl) oo_eqI) (by rw [decide_eq_true en])

abbrev N_is_row_of_letters : List Str := ["thing", "many", "sign"]
abbrev P_is_row_of_letters : List Str := ["thing", "many"]
theorem sc_is_row_of_letters : FnScope N_is_row_of_letters P_is_row_of_letters (defScope (topS 28)) := ⟨rfl, rfl, rfl, by decide +kernel, rfl, by decide +kernel, by decide +kernel⟩
def R_is_row_of_letters (ds : List PyData) (z : PyData) : Prop := ∃ (x : Str) (m : Nat), ds = [.str x, .int m] ∧ RowOk x m ∧ m ≤ 60 ∧ z = .bool true
theorem ok_is_row_of_letters (T : Tx w K mg) (F : FnP K "is_row_of_letters" 28 [] f fd) (Dis_letter : Kd P w K mg base "is_letter" P_is_letter (pureSp K R_is_letter) 1) : FnOk P w K mg base CX0 2 f fd P_is_row_of_letters (pureSp K R_is_row_of_letters) := by
  have nd := sc_is_row_of_letters.nd
  refine pure_fn F sc_is_row_of_letters (fun ds z ⟨_, _, e, _⟩ => e ▸ rfl) fun cdv A outer s H E hr => ⟨_, (pss_cons (ps_if (PW.pt (pw_or (pt_not (pt_val (pe_callB call_isi (by rfl) T.isinstance (by decide +kernel) (pa_cons (pv 0) (pa_cons (pe_bltn (v := .ty "str") (by rfl) T.str (by decide +kernel) rfl) pa_nil))))) (pw_or (pt_cmpR op_ne (pe_callB (r := fun xs H Q => ∃ x n, xs = [x] ∧ LenV K x H n ∧ Q (.int n) H) call_len (by rfl) T.len (by decide +kernel) (pa_cons (pv 0) pa_nil)) (pv 1) (nomark _)) (pw_or1 (pt_not (pt_val (pe_callB (cr_all rfl) (by rfl) T.all (by decide +kernel) (pa_cons (pe_lc (own := [("sign", 2)]) (g := gName 2) (tt := tYes) rfl nd (pi_str (pv 0)) (blkOk_by (N := N_is_row_of_letters) (sc := defScope (topS 28)) (by decide +kernel)) (fun _ _ _ _ _ => (pg_name (i := 2) nd rfl (Or.inl rfl))) (fun _ _ _ _ _ => pts_nil) (fun _ _ _ _ _ => (pe_df Dis_letter (hr.mono (by decide)) (by rfl) (pa_cons (pv 2) pa_nil)))) pa_nil)))))))) (pss_one (ps_ret pe_bl)) pss_nil)
      (pss_one (ps_ret (pe_cmpR op_eq (pe_lenSetT (by rfl) T.len (by rfl) T.set (pv 0)) (pv 1) (nomark _))))), fun G H ds z Q hR q => ?_⟩
  obtain ⟨x, m, rfl, ⟨en, hx, hd⟩, hl, rfl⟩ := hR
  have en' : (x.length : Int) = m := by rw [en]
  refine nx_seq (nx_ifF (et_orF (et_notT (et_B (ev_isi (ev_var rfl) ki_ss))) (et_orF (et_test (ev_lenNe (ev_var rfl) (cb_lenS (by omega)) (ev_var rfl) en'))
    (et_notT (et_B (ev_all (ev_lc (fun _ => .bool true) (wk_str (ev_var rfl)) (by rw [sgn_len]; omega) fun x hm => ⟨_, tg_name (by decide), ev_call (ea_cons (ev_var rfl) ea_nil) ⟨x, rfl, sgn_let hx x hm, rfl⟩⟩)))))) (nx_next ?_))
  refine nx_out ?_ q
  exact EvD.of (ev_op (ev_lenSetT (ev_var rfl) (sgn_nd hd) (by omega)) (ev_var rfl) oo_eqI) (by rw [decide_eq_true en'])

abbrev N_are_letters : List Str := ["thing", "dealings", "row", "dealing"]
abbrev P_are_letters : List Str := ["thing", "dealings"]
theorem sc_are_letters : FnScope N_are_letters P_are_letters (defScope (topS 29)) := ⟨rfl, rfl, rfl, by decide +kernel, rfl, by decide +kernel, by decide +kernel⟩
def R_are_letters (ds : List PyData) (z : PyData) : Prop := ∃ (ls : List Str) (es : List Deal), ds = [eS ls, .list (es.map eD)] ∧ ls.length = es.length ∧ es.length ≤ 60 ∧ (∀ (i : Nat) d x, es[i]? = some d → ls[i]? = some x → RowOk x d.2.1.length ∧ d.2.1.length ≤ 60) ∧ z = .bool true
theorem ok_are_letters (T : Tx w K mg) (F : FnP K "are_letters" 29 [] f fd) (Dis_row_of_letters : Kd P w K mg base "is_row_of_letters" P_is_row_of_letters (pureSp K R_is_row_of_letters) 2) : FnOk P w K mg base CX0 3 f fd P_are_letters (pureSp K R_are_letters) := by
  have nd := sc_are_letters.nd
  refine pure_fn F sc_are_letters (fun ds z ⟨_, _, e, _⟩ => e ▸ rfl) fun cdv A outer s H E hr => ⟨_, (pss_cons (ps_if (PW.pt (pw_or (pt_not (pt_val (pe_callB call_isi (by rfl) T.isinstance (by decide +kernel) (pa_cons (pv 0) (pa_cons (pe_bltn (v := .ty "list") (by rfl) T.list (by decide +kernel) rfl) pa_nil))))) (pw_or1 (pt_cmpR op_ne (pe_callB (r := fun xs H Q => ∃ x n, xs = [x] ∧ LenV K x H n ∧ Q (.int n) H) call_len (by rfl) T.len (by decide +kernel) (pa_cons (pv 0) pa_nil)) (pe_callB (r := fun xs H Q => ∃ x n, xs = [x] ∧ LenV K x H n ∧ Q (.int n) H) call_len (by rfl) T.len (by decide +kernel) (pa_cons (pv 1) pa_nil)) (nomark _))))) (pss_one (ps_ret pe_bl)) pss_nil)
      (pss_one (ps_ret (pe_callB (cr_all rfl) (by rfl) T.all (by decide +kernel) (pa_cons (pe_lc (own := [("row", 2), ("dealing", 3)]) (g := gTup K 2 (gCons (gName 2) (gCons (gName 3) (gNil)))) (tt := tYes) rfl nd (pi_zip (by rfl) T.zip (pa_cons (pv 0) (pa_cons (pv 1) pa_nil))) (blkOk_by (N := N_are_letters) (sc := defScope (topS 29)) (by decide +kernel)) (fun _ _ _ _ _ => (pg_tup rfl (pgs_cons (pg_name (i := 2) nd rfl (Or.inl rfl)) (pgs_cons (pg_name (i := 3) nd rfl (Or.inl rfl)) pgs_nil)))) (fun _ _ _ _ _ => pts_nil) (fun _ _ _ _ _ => (pe_df Dis_row_of_letters (hr.mono (by decide)) (by rfl) (pa_cons (pv 2) (pa_cons (pe_callB (r := fun xs H Q => ∃ x n, xs = [x] ∧ LenV K x H n ∧ Q (.int n) H) call_len (by rfl) T.len (by decide +kernel) (pa_cons (pe_ix (r := rIxT K) ix_tup (pv 3) pe_int (fun _ _ => rfl)) pa_nil)) pa_nil))))) pa_nil))))), fun G H ds z Q hR q => ?_⟩
  obtain ⟨ls, es, rfl, en, hl, hx, rfl⟩ := hR
  refine nx_seq (nx_ifF (et_orF (et_notT (et_B (ev_isi (ev_var rfl) ki_ll))) (et_test (EvD.of (ev_op (ev_cb (ea_cons (ev_var rfl) ea_nil) cb_lenL) (ev_cb (ea_cons (ev_var rfl) ea_nil) cb_lenL) oo_neI) (by rw [List.length_map, List.length_map, en, decide_eq_true rfl]; rfl)))) (nx_next ?_))
  refine nx_out ?_ q
  refine ev_all (ev_lc (xs := ls.zip es) (fun _ => .bool true) (wk_zipM (ea_cons (ev_var rfl) (ea_cons (ev_var rfl) ea_nil))) (Nat.le_trans (zip_le _ _) (by omega)) fun p hm => ⟨_, tg_tup2 (by decide) (by decide), ?_⟩)
  obtain ⟨i, hi⟩ := List.mem_iff_getElem?.mp hm
  rw [List.getElem?_zip_eq_some] at hi
  obtain ⟨h1, h2⟩ := hx i p.2 p.1 hi.2 hi.1
  exact ev_call (ea_cons (ev_var rfl) (ea_cons (ev_cb (ea_cons (ev_op (ev_var rfl) ev_int (oo_ixT rfl)) ea_nil) cb_lenL) ea_nil)) ⟨p.1, p.2.2.1.length, by rw [List.length_map], h1, h2, rfl⟩

abbrev N_look_at_names : List Str := ["book", "kinds", "dealings", "letters"]
abbrev P_look_at_names : List Str := ["book", "kinds", "dealings", "letters"]
theorem sc_look_at_names : FnScope N_look_at_names P_look_at_names (defScope (topS 30)) := ⟨rfl, rfl, rfl, by decide +kernel, rfl, by decide +kernel, by decide +kernel⟩
def R_look_at_names (ds : List PyData) (z : PyData) : Prop := ∃ (b : Book) (ks es ls : List Str), ds = [eB b, eS ks, eS es, eS ls] ∧ WB b ∧ NOk b ks es ls ∧ z = .none
theorem ok_look_at_names (T : Tx w K mg) (F : FnP K "look_at_names" 30 [] f fd) (Dare_names : Kd P w K mg base "are_names" P_are_names (pureSp K R_are_names) 3) (Dare_letters : Kd P w K mg base "are_letters" P_are_letters (pureSp K R_are_letters) 3) :
    FnOk P w K mg base CX0 4 f fd P_look_at_names (pureSp K R_look_at_names) := by
  have nd := sc_look_at_names.nd
  refine pure_fn F sc_look_at_names (fun ds z ⟨_, _, _, _, e, _⟩ => e ▸ rfl) fun cdv A outer s H E hr => ⟨_, (pss_cons (ps_if (pt_not (pt_val (pe_df Dare_names (hr.mono (by decide)) (by rfl) (pa_cons (pv 1) (pa_cons (pe_callB (r := fun xs H Q => ∃ x n, xs = [x] ∧ LenV K x H n ∧ Q (.int n) H) call_len (by rfl) T.len (by decide +kernel) (pa_cons (pe_ix (r := rIxT K) ix_tup (pv 0) pe_int (fun _ _ => rfl)) pa_nil)) pa_nil))))) (pss_one ps_never) pss_nil)
      (pss_cons (ps_if (pt_not (pt_val (pe_df Dare_names (hr.mono (by decide)) (by rfl) (pa_cons (pv 2) (pa_cons (pe_callB (r := fun xs H Q => ∃ x n, xs = [x] ∧ LenV K x H n ∧ Q (.int n) H) call_len (by rfl) T.len (by decide +kernel) (pa_cons (pe_ix (r := rIxT K) ix_tup (pv 0) pe_int (fun _ _ => rfl)) pa_nil)) pa_nil))))) (pss_one ps_never) pss_nil)
      (pss_one (ps_if (pt_not (pt_val (pe_df Dare_letters (hr.mono (by decide)) (by rfl) (pa_cons (pv 3) (pa_cons (pe_ix (r := rIxT K) ix_tup (pv 0) pe_int (fun _ _ => rfl)) pa_nil))))) (pss_one ps_never) pss_nil)))), fun G H ds z Q hR q => ?_⟩
  obtain ⟨b, ks, es, ls, rfl, wf, ok, rfl⟩ := hR
  have h6 := wf.k6
  have h8 := wf.d8
  refine nx_seq (nx_ifF (et_notT (et_B (ev_call (ea_cons (ev_var rfl) (ea_cons (ev_cb (ea_cons (ev_op (ev_var rfl) ev_int (oo_ixT rfl)) ea_nil) cb_lenL) ea_nil)) ⟨ks, _, rfl, by rw [List.length_map, ok.kl], by rw [ok.kl]; omega, ok.kn, ok.kd, rfl⟩))) (nx_next ?_))
  refine nx_seq (nx_ifF (et_notT (et_B (ev_call (ea_cons (ev_var rfl) (ea_cons (ev_cb (ea_cons (ev_op (ev_var rfl) ev_int (oo_ixT rfl)) ea_nil) cb_lenL) ea_nil)) ⟨es, _, rfl, by rw [List.length_map, ok.dl], by rw [ok.dl]; omega, ok.dn, ok.dd, rfl⟩))) (nx_next ?_))
  refine nx_ifF (et_notT (et_B (ev_call (ea_cons (ev_var rfl) (ea_cons (ev_op (ev_var rfl) ev_int (oo_ixT rfl)) ea_nil)) ⟨ls, b.2, rfl, ok.ll, by omega, fun i d x h1 h2 => ⟨ok.lr i d x h1 h2, ?_⟩, rfl⟩))) (nx_next (nx_fall q))
  have := (wf.ds d (List.mem_of_getElem? h1)).l4
  omega

abbrev N_renamed : List Str := ["book", "kinds", "dealings", "letters", "by_kind", "found", "dealing", "name", "row", "by_letter", "signs", "kind", "many", "letter", "one", "sign", "deed"]
abbrev P_renamed : List Str := ["book", "kinds", "dealings", "letters"]
theorem sc_renamed : FnScope N_renamed P_renamed (defScope (topS 31)) := ⟨rfl, rfl, rfl, by decide +kernel, rfl, by decide +kernel, by decide +kernel⟩
def R_renamed (ds : List PyData) (z : PyData) : Prop := ∃ (b : Book) (ks es ls : List Str), ds = [eB b, eS ks, eS es, eS ls] ∧ WB b ∧ NOk b ks es ls ∧ z = eB (rename b ks es ls)
theorem ok_renamed (T : Tx w K mg) {dvs : List V} (F : FnP K "renamed" 31 dvs f fd) (Dlook_at_names : Kd P w K mg base "look_at_names" P_look_at_names (pureSp K R_look_at_names) 4) :
    FnOk P w K mg base CX0 5 f fd P_renamed (pureSp K R_renamed) := by
  have nd := sc_renamed.nd
  refine pure_fn F sc_renamed (fun ds z ⟨_, _, _, _, e, _⟩ => e ▸ rfl) fun cdv A outer s H E hr => ⟨_, (pss_cons (ps_if (pt_cmpR op_isN (pv 1) pe_non (nomark _)) (pss_never) pss_nil)
      (pss_cons (ps_if (pt_cmpR op_isN (pv 2) pe_non (nomark _)) (pss_never) pss_nil)
      (pss_cons (ps_if (pt_cmpR op_isN (pv 3) pe_non (nomark _)) (pss_never) pss_nil)
      (pss_cons (ps_expr (pe_df Dlook_at_names (hr.mono (by decide)) (by rfl) (pa_cons (pv 0) (pa_cons (pv 1) (pa_cons (pv 2) (pa_cons (pv 3) pa_nil))))))
      (pss_cons (ps_set (i := 4) nd rfl (Or.inr rfl) (pe_callTy (call_dictP rfl) (by rfl) T.dict (by decide +kernel) (pa_cons (pe_lc (own := [("one", 14), ("kind", 11)]) (g := gTup K 2 (gCons (gName 14) (gCons (gName 11) (gNil)))) (tt := tYes) rfl nd (pi_zip (by rfl) T.zip (pa_cons (pe_ix (r := rIxT K) ix_tup (pv 0) pe_int (fun _ _ => rfl)) (pa_cons (pv 1) pa_nil))) (blkOk_by (N := N_renamed) (sc := defScope (topS 31)) (by decide +kernel)) (fun _ _ _ _ _ => (pg_tup rfl (pgs_cons (pg_name (i := 14) nd rfl (Or.inl rfl)) (pgs_cons (pg_name (i := 11) nd rfl (Or.inl rfl)) pgs_nil)))) (fun _ _ _ _ _ => pts_nil) (fun _ _ _ _ _ => (pe_tup (pa_cons (pe_ix (r := rIxT K) ix_tup (pv 14) pe_int (fun _ _ => rfl)) (pa_cons (pv 11) pa_nil))))) pa_nil)))
      (pss_cons (ps_set (i := 5) nd rfl (Or.inl rfl) (pe_tup (pa_cons (pe_lc (own := [("kind", 11), ("many", 12)]) (g := gTup K 2 (gCons (gName 11) (gCons (gName 12) (gNil)))) (tt := tYes) rfl nd (pi_list (pe_ix (r := rIxT K) ix_tup (pv 0) pe_int (fun _ _ => rfl))) (blkOk_by (N := N_renamed) (sc := defScope (topS 31)) (by decide +kernel)) (fun _ _ _ _ _ => (pg_tup rfl (pgs_cons (pg_name (i := 11) nd rfl (Or.inl rfl)) (pgs_cons (pg_name (i := 12) nd rfl (Or.inl rfl)) pgs_nil)))) (fun _ _ _ _ _ => pts_nil) (fun _ _ _ _ _ => (pe_tup (pa_cons (pe_dget (hu_of hr) (pv 4) (pv 11) (fun _ _ => rfl)) (pa_cons (pv 12) pa_nil))))) (pa_cons (pe_lst pa_nil) pa_nil))))
      (pss_cons (ps_for PassesOwn.never rfl (pi_zip3 (by rfl) T.zip (pa_cons (pe_ix (r := rIxT K) ix_tup (pv 0) pe_int (fun _ _ => rfl)) (pa_cons (pv 2) (pa_cons (pv 3) pa_nil)))) (pg_tup rfl (pgs_cons (pg_name (i := 6) nd rfl (Or.inl rfl)) (pgs_cons (pg_name (i := 7) nd rfl (Or.inl rfl)) (pgs_cons (pg_name (i := 8) nd rfl (Or.inl rfl)) pgs_nil)))) (pss_cons (ps_set (i := 9) nd rfl (Or.inr rfl) (pe_callTy (call_dictP rfl) (by rfl) T.dict (by decide +kernel) (pa_cons (pe_lc (own := [("one", 14), ("sign", 15)]) (g := gTup K 2 (gCons (gName 14) (gCons (gName 15) (gNil)))) (tt := tYes) rfl nd (pi_zipS (by rfl) T.zip (pa_cons (pe_ix (r := rIxT K) ix_tup (pv 6) pe_int (fun _ _ => rfl)) (pa_cons (pv 8) pa_nil))) (blkOk_by (N := N_renamed) (sc := defScope (topS 31)) (by decide +kernel)) (fun _ _ _ _ _ => (pg_tup rfl (pgs_cons (pg_name (i := 14) nd rfl (Or.inl rfl)) (pgs_cons (pg_name (i := 15) nd rfl (Or.inl rfl)) pgs_nil)))) (fun _ _ _ _ _ => pts_nil) (fun _ _ _ _ _ => (pe_tup (pa_cons (pe_ix (r := rIxT K) ix_tup (pv 14) pe_int (fun _ _ => rfl)) (pa_cons (pv 15) pa_nil))))) pa_nil)))
        (pss_cons (ps_setLc (i := 10) (own := [("letter", 13), ("kind", 11)]) (g := gTup K 2 (gCons (gName 13) (gCons (gName 11) (gNil)))) (tt := tYes) rfl nd rfl rfl (sw_true rfl rfl rfl (by decide +kernel)) (pi_list (pe_ix (r := rIxT K) ix_tup (pv 6) pe_int (fun _ _ => rfl))) (blkOk_by (N := N_renamed) (sc := defScope (topS 31)) (by decide +kernel)) (fun _ _ _ _ _ => (pg_tup rfl (pgs_cons (pg_name (i := 13) nd rfl (Or.inl rfl)) (pgs_cons (pg_name (i := 11) nd rfl (Or.inl rfl)) pgs_nil)))) (fun _ _ _ _ _ => pts_nil) (fun _ _ _ _ _ => (pe_tup (pa_cons (pe_dget (hu_of hr) (pv 9) (pv 13) (fun _ _ => rfl)) (pa_cons (pe_dget (hu_of hr) (pv 4) (pv 11) (fun _ _ => rfl)) pa_nil)))))
        (pss_one (ps_expr (pe_bm PySem.F.plainAttrs_list PySem.F.slot_list_append PySem.F.type_list_append mt_append (pe_ix (r := rIxT K) ix_tup (pv 5) pe_int (fun _ _ => rfl)) (pa_cons (pe_tup (pa_cons (pv 7) (pa_cons (pv 10) (pa_cons (pe_lc (own := [("deed", 16), ("letter", 13)]) (g := gTup K 2 (gCons (gName 16) (gCons (gName 13) (gNil)))) (tt := tYes) rfl nd (pi_list (pe_ix (r := rIxT K) ix_tup (pv 6) pe_int (fun _ _ => rfl))) (blkOk_by (N := N_renamed) (sc := defScope (topS 31)) (by decide +kernel)) (fun _ _ _ _ _ => (pg_tup rfl (pgs_cons (pg_name (i := 16) nd rfl (Or.inl rfl)) (pgs_cons (pg_name (i := 13) nd rfl (Or.inl rfl)) pgs_nil)))) (fun _ _ _ _ _ => pts_nil) (fun _ _ _ _ _ => (pe_tup (pa_cons (pv 16) (pa_cons (pe_dget (hu_of hr) (pv 9) (pv 13) (fun _ _ => rfl)) pa_nil))))) pa_nil)))) pa_nil)))))))
      (pss_one (ps_ret (pv 5)))))))))), fun G H ds z Q hR q => ?_⟩
  obtain ⟨b, ks, es, ls, rfl, wf, ok, rfl⟩ := hR
  have h6 := wf.k6
  have h8 := wf.d8
  refine nx_seq (nx_ifF (et_test (ev_op (ev_var rfl) ev_non oo_isNL)) (nx_next ?_))
  refine nx_seq (nx_ifF (et_test (ev_op (ev_var rfl) ev_non oo_isNL)) (nx_next ?_))
  refine nx_seq (nx_ifF (et_test (ev_op (ev_var rfl) ev_non oo_isNL)) (nx_next ?_))
  refine nx_seq (nx_drop (ev_call (z := .none) (ea_cons (ev_var rfl) (ea_cons (ev_var rfl) (ea_cons (ev_var rfl) (ea_cons (ev_var rfl) ea_nil)))) ⟨b, ks, es, ls, rfl, wf, ok, rfl⟩) ?_)
  have klen : ks.length = (b.1.map Prod.fst).length := by rw [List.length_map, ok.kl]
  refine nx_seq (nx_dict (ps := (b.1.map Prod.fst).zip ks) ?_ (by rw [fst_zip klen]; exact wf.kd) ?_)
  · rw [← zip_fst, List.map_map]
    exact ev_lc (xs := b.1.zip ks) (fun p => eSS (p.1.1, p.2)) (wk_zipM (ea_cons (ev_op (ev_var rfl) ev_int (oo_ixT rfl)) (ea_cons (ev_var rfl) ea_nil))) (Nat.le_trans (zip_le _ _) (by omega)) fun p hm => ⟨_, tg_tup2 (by decide) (by decide), ev_tup (ea_cons (ev_op (ev_var rfl) ev_int (oo_ixT rfl)) (ea_cons (ev_var rfl) ea_nil)) (by show 2 ≤ 1000; decide)⟩
  have vk : ∀ x ∈ b.1.map Prod.fst, valV (((b.1.map Prod.fst).zip ks).map kvS) (.inr x) = some (.str (kmap b ks x)) := fun x hx => val_look wf.kd klen hx
  refine nx_seq (nx_prt (d0 := .list ((rename b ks es ls).1.map eK)) ?_ ?_)
  · show EvD _ _ _ (.list ((b.1.map fun k => (kmap b ks k.1, k.2)).map eK))
    rw [List.map_map]
    exact ev_lc (xs := b.1) (fun k => eK (kmap b ks k.1, k.2)) (wk_list (ev_op (ev_var rfl) ev_int (oo_ixT rfl))) (by omega) fun k hm => ⟨_, tg_tup2 (by decide) (by decide),
      ev_tup (ea_cons (ev_dget rfl (.inl rfl) (ev_var rfl) (vk k.1 (List.mem_map.mpr ⟨k, hm, rfl⟩))) (ea_cons (ev_var rfl) ea_nil)) (by show 2 ≤ 1000; decide)⟩
  refine nx_seq (nx_forD (fun i => [Sl.dat (eB b), .dat (eS ks), .dat (eS es), .dat (eS ls), .dic (((b.1.map Prod.fst).zip ks).map kvS), .spc (prt K (.list ((rename b ks es ls).1.map eK)) (((rename b ks es ls).2.take i).map eD)), .un, .un, .un, .un, .un, .un, .un, .un, .un, .un, .un]) (wk_zip3M (ea_cons (ev_op (ev_var rfl) ev_int (oo_ixT rfl)) (ea_cons (ev_var rfl) (ea_cons (ev_var rfl) ea_nil))) ok.dl ok.ll)
    (.same (.same (.same (.same (.same (.same (.same (.same (.same (.same (.same (.same (.same (.same (.same (.same (.same .nil))))))))))))))))) (fun i d G1 hd => ?_) ?_)
  · obtain ⟨⟨d, n, x⟩, hi, rfl⟩ := map_inv hd
    rw [List.getElem?_zip_eq_some, List.getElem?_zip_eq_some] at hi
    obtain ⟨h1, h2, h3⟩ := hi
    have wd := wf.ds d (List.mem_of_getElem? h1)
    have l4 := wd.l4
    have l8 := wd.s8
    obtain ⟨rl, ra, rn⟩ := ok.lr i d x h1 h3
    have slen : (sgn x).length = (d.2.1.map Prod.fst).length := by rw [sgn_len, List.length_map]; exact rl
    have hr' := ren_get (ks := ks) h1 h2 h3
    have vl : ∀ y ∈ d.2.1.map Prod.fst, valV (((d.2.1.map Prod.fst).zip (sgn x)).map kvS) (.inr y) = some (.str (look (d.2.1.map Prod.fst) (sgn x) y)) := fun y hy => val_look wd.nd slen hy
    refine ⟨_, [6, 7, 8], tg_tup3 (by decide) (by decide) (by decide), ?_⟩
    refine nx_seq (nx_dict (ps := (d.2.1.map Prod.fst).zip (sgn x)) ?_ (by rw [fst_zip slen]; exact wd.nd) ?_)
    · exact EvD.of (ev_lc (xs := d.2.1.zip (sgn x)) (fun p => eSS (p.1.1, p.2)) (wk_zipSM (ea_cons (ev_op (ev_var rfl) ev_int (oo_ixT rfl)) (ea_cons (ev_var rfl) ea_nil)) rl.symm) (Nat.le_trans (zip_le _ _) (by omega)) fun p hm => ⟨_, tg_tup2 (by decide) (by decide), ev_tup (ea_cons (ev_op (ev_var rfl) ev_int (oo_ixT rfl)) (ea_cons (ev_var rfl) ea_nil)) (by show 2 ≤ 1000; decide)⟩) (by rw [← zip_fst (f := Prod.fst) d.2.1 (sgn x), List.map_map]; rfl)
    refine nx_seq (nx_asgD (d := .list ((renD (kmap b ks) d n x).2.1.map eP)) ?_ ?_)
    · show EvD _ _ _ (.list ((d.2.1.map fun p => (look (d.2.1.map Prod.fst) (sgn x) p.1, kmap b ks p.2)).map eP))
      rw [List.map_map]
      exact ev_lc (xs := d.2.1) (fun p => eP (look (d.2.1.map Prod.fst) (sgn x) p.1, kmap b ks p.2)) (wk_list (ev_op (ev_var rfl) ev_int (oo_ixT rfl))) (by omega) fun p hm => ⟨_, tg_tup2 (by decide) (by decide),
        ev_tup (ea_cons (ev_dget rfl (.inl rfl) (ev_var rfl) (vl p.1 (List.mem_map.mpr ⟨p, hm, rfl⟩))) (ea_cons (ev_dget rfl (.inl rfl) (ev_var rfl) (vk p.2 (wd.lt p hm).2)) ea_nil)) (by show 2 ≤ 1000; decide)⟩
    refine nx_prtApp (d := eD (renD (kmap b ks) d n x)) rfl rfl (by rw [List.length_map, List.length_take, ren_len ok]; omega) ?_ ?_
    · refine ev_tup (ea_cons (ev_var rfl) (ea_cons (ev_var rfl) (ea_cons (d := .list ((renD (kmap b ks) d n x).2.2.map eP)) ?_ ea_nil))) (by show 3 ≤ 1000; decide)
      show EvD _ _ _ (.list ((d.2.2.map fun p => (p.1, look (d.2.1.map Prod.fst) (sgn x) p.2)).map eP))
      rw [List.map_map]
      exact ev_lc (xs := d.2.2) (fun p => eP (p.1, look (d.2.1.map Prod.fst) (sgn x) p.2)) (wk_list (ev_op (ev_var rfl) ev_int (oo_ixT rfl))) (by omega) fun p hm => ⟨_, tg_tup2 (by decide) (by decide),
        ev_tup (ea_cons (ev_var rfl) (ea_cons (ev_dget rfl (.inl rfl) (ev_var rfl) (vl p.2 (wd.st p hm).2)) ea_nil)) (by show 2 ≤ 1000; decide)⟩
    · refine nx_kx rfl ?_
      rw [take_map hr']
      exact .same (.same (.same (.same (.same (.same (.un (.un (.un (.un (.un (.same (.same (.same (.same (.same (.same .nil))))))))))))))))
  · have e : (rename b ks es ls).2.take ((b.2.zip (es.zip ls)).map fun p => PyData.tuple [eD p.1, .str p.2.1, .str p.2.2]).length = (rename b ks es ls).2 := by
      rw [List.length_map, List.length_zip, List.length_zip, ok.dl, ok.ll]
      refine List.take_of_length_le ?_
      rw [ren_len ok]
      omega
    rw [e]
    refine nx_prtDone (i := 5) rfl rfl ?_
    exact nx_out (ev_var rfl) q

/-- lo <= x < hi -/
theorem ev_within {C : Cn} {Γ : List Sl} {ta tb tc : TE} {lo n hi : Int} (h1 : EvD C ta Γ (.int lo)) (h : EvD C tb Γ (.int n)) (h2 : EvD C tc Γ (.int hi)) (e1 : lo ≤ n) (e2 : n < hi) :
    EvD C (tChain (rI0 fun i j => .bl (decide (i ≤ j))) (rI0 fun i j => .bl (decide (i < j))) ta tb tc) Γ (.bool true) := by
  have o1 : OpD C.K (rI0 fun i j => .bl (decide (i ≤ j))) (.int lo) (.int n) (.bool (decide (lo ≤ n))) := oo_b
  have o2 : OpD C.K (rI0 fun i j => .bl (decide (i < j))) (.int n) (.int hi) (.bool (decide (n < hi))) := oo_b
  rw [decide_eq_true e1] at o1
  rw [decide_eq_true e2] at o2
  exact ev_chain h1 h h2 o1 o2
abbrev N_chosen : List Str := ["book", "numbers", "seen", "number"]
abbrev P_chosen : List Str := ["book", "numbers"]
theorem sc_chosen : FnScope N_chosen P_chosen (defScope (topS 32)) := ⟨rfl, rfl, rfl, by decide +kernel, rfl, by decide +kernel, by decide +kernel⟩
def R_chosen (ds : List PyData) (z : PyData) : Prop := ∃ (b : Book) (o : List Nat), ds = [eB b, .list (o.map fun (i : Nat) => .int i)] ∧ WB b ∧ Ord o b.2.length ∧ z = eB (pick b o)
theorem ok_chosen (T : Tx w K mg) (F : FnP K "chosen" 32 [] f fd) (Dis_whole : Kd P w K mg base "is_whole" P_is_whole (pureSp K R_is_whole) 1) (Dbook_copied : Kd P w K mg base "book_copied" P_book_copied (pureSp K R_book_copied) 2)
    (Ddealing_copied : Kd P w K mg base "dealing_copied" P_dealing_copied (pureSp K R_dealing_copied) 1) : FnOk P w K mg base CX0 3 f fd P_chosen (pureSp K R_chosen) := by
  have nd := sc_chosen.nd
  refine pure_fn F sc_chosen (fun ds z ⟨_, _, e, _⟩ => e ▸ rfl) fun cdv A outer s H E hr => ⟨_, (pss_cons (ps_if (PW.pt (pw_or (pt_not (pt_val (pe_callB call_isi (by rfl) T.isinstance (by decide +kernel) (pa_cons (pv 1) (pa_cons (pe_bltn (v := .ty "list") (by rfl) T.list (by decide +kernel) rfl) pa_nil))))) (pw_or1 (pt_cmpR (op_eqD hr.units) (pv 1) (pe_lst pa_nil) (nomark _))))) (pss_one ps_never) pss_nil)
      (pss_cons (ps_set (i := 2) nd rfl (Or.inl rfl) (pe_lst pa_nil))
      (pss_cons (ps_for PassesOwn.never rfl (pi_list (pv 1)) (pg_name (i := 3) nd rfl (Or.inl rfl)) (pss_cons (ps_if (PW.pt (pw_or (pt_not (pt_val (pe_df Dis_whole (hr.mono (by decide)) (by rfl) (pa_cons (pv 3) pa_nil)))) (pw_or (pt_not (pt_chain op_le op_lt pe_int (pv 3) (pe_callB (r := fun xs H Q => ∃ x n, xs = [x] ∧ LenV K x H n ∧ Q (.int n) H) call_len (by rfl) T.len (by decide +kernel) (pa_cons (pe_ix (r := rIxT K) ix_tup (pv 0) pe_int (fun _ _ => rfl)) pa_nil)))) (pw_or1 (pt_cmpR (r := rIn K false) op_in_seq (pv 3) (pv 2) (by rfl)))))) (pss_one ps_never) pss_nil)
        (pss_one (ps_expr (pe_bm PySem.F.plainAttrs_list PySem.F.slot_list_append PySem.F.type_list_append mt_append (pv 2) (pa_cons (pv 3) pa_nil))))))
      (pss_one (ps_ret (pe_tup (pa_cons (pe_ix (r := rIxT K) ix_tup (pe_df Dbook_copied (hr.mono (by decide)) (by rfl) (pa_cons (pv 0) pa_nil)) pe_int (fun _ _ => rfl)) (pa_cons (pe_lc (own := [("number", 3)]) (g := gName 3) (tt := tYes) rfl nd (pi_list (pv 1)) (blkOk_by (N := N_chosen) (sc := defScope (topS 32)) (by decide +kernel)) (fun _ _ _ _ _ => (pg_name (i := 3) nd rfl (Or.inl rfl))) (fun _ _ _ _ _ => pts_nil) (fun _ _ _ _ _ => (pe_df Ddealing_copied (hr.mono (by decide)) (by rfl) (pa_cons (pe_ix (r := rIxL K) ix_list (pe_ix (r := rIxT K) ix_tup (pv 0) pe_int (fun _ _ => rfl)) (pv 3) (fun _ _ => rfl)) pa_nil)))) pa_nil)))))))), fun G H ds z Q hR q => ?_⟩
  obtain ⟨b, o, rfl, wf, ho, rfl⟩ := hR
  have h1 := wf.d1
  have h8 := wf.d8
  have hl := ho.len
  have sh : SeqAt.shaped (.list (o.map fun (i : Nat) => PyData.int i)) = true := (sd_list (sda_map (n := 0) fun x _ => sd_int)).shaped (by decide)
  refine nx_seq (nx_ifF (et_orF (et_notT (et_B (ev_isi (ev_var rfl) ki_ll))) (et_test (EvD.of (ev_op (ev_var rfl) (ev_lst ea_nil (by decide)) (oo_eqD sh rfl)) (by rw [eqv_nil (by rw [List.length_map]; omega)])))) (nx_next ?_))
  refine nx_seq (nx_own ?_)
  refine nx_seq (nx_forD (fun i => [.dat (eB b), .dat (.list (o.map fun (i : Nat) => .int i)), .own (((o.take i).map fun (i : Nat) => (i : Int)).map .int), .un]) (wk_list (ev_var rfl)) (.same (.same (.same (.same .nil)))) (fun i d G1 hd => ?_) ?_)
  · obtain ⟨m, hi, rfl⟩ := map_inv hd
    have hm := List.mem_of_getElem? hi
    have lt := ho.lt m hm
    have new : (m : Int) ∉ (o.take i).map fun (i : Nat) => (i : Int) := fun z => by
      obtain ⟨y, hy, e⟩ := List.mem_map.mp z
      have e2 : y = m := Int.ofNat.inj e
      subst e2
      obtain ⟨j, hj⟩ := List.mem_iff_getElem?.mp hy
      rw [List.getElem?_take] at hj
      by_cases hji : j < i
      · rw [if_pos hji] at hj
        have := nd_at ho.nd hj hi
        omega
      · rw [if_neg hji] at hj
        cases hj
    refine ⟨_, [3], tg_name (by decide), ?_⟩
    refine nx_seq (nx_ifF (et_orF (et_notT (et_B (ev_call (ea_cons (ev_var rfl) ea_nil) ⟨_, rfl, rfl⟩))) (et_orF (et_notT (et_test (ev_within ev_int (ev_var rfl) (ev_cb (ea_cons (ev_op (ev_var rfl) ev_int (oo_ixT rfl)) ea_nil) cb_lenL) (by omega) (by rw [List.length_map]; omega))))
      (et_test (EvD.of (ev_inOwnI (ev_var rfl) rfl) (by rw [decide_eq_false new]; rfl))))) (nx_next ?_))
    refine nx_appD rfl rfl ?_ (ev_var rfl) ?_
    · rw [List.length_map, List.length_map, List.length_take]
      omega
    · refine nx_kx rfl ?_
      rw [take_map hi, List.map_append]
      exact .same (.same (.same (.un .nil)))
  · refine nx_out ?_ q
    refine ev_tup (ea_cons (ev_op (ev_call (ea_cons (ev_var rfl) ea_nil) ⟨b, rfl, by omega, rfl⟩) ev_int (oo_ixT rfl)) (ea_cons (d := .list ((o.map fun i => b.2.getD i dD0).map eD)) ?_ ea_nil)) (by show 2 ≤ 1000; decide)
    have ix : ∀ m ∈ o, atI b.2 (m : Int) = some (b.2.getD m dD0) := fun m hm => by
      have lt := ho.lt m hm
      rw [List.getD_eq_getElem?_getD, List.getElem?_eq_getElem lt]
      exact atI_nat (List.getElem?_eq_getElem lt)
    exact EvD.of (ev_lc (xs := o) (fun i => eD (b.2.getD i dD0)) (wk_list (ev_var rfl)) (by omega) fun m hm => ⟨_, tg_name (by decide), ev_call (ea_cons (ev_op (ev_op (ev_var rfl) ev_int (oo_ixT rfl)) (ev_var rfl) (oo_ixM (ix m hm))) ea_nil) ⟨_, rfl, rfl⟩⟩) (by rw [List.map_map]; rfl)
end
end SN

/-! SN: a book that is read: two lists in a tuple, the last dealing's steps open. -/
namespace SN
open PySem L2
theorem hu65 {A : Around} {k : Nat} (hr : Room k A) : A.units + 65 < cLine := by
  have := hr.un
  omega
inductive Dls (K : PySem.W.Frag) (G H : Hp) : Option Addr → List V → List Deal → Prop
  | nil : Dls K G H none [] []
  | more {us : List V} {ds : List Deal} {d : Deal} {dt s : Addr} {vl : V} {ws : List V} (h : DqAll K G us (ds.map eD)) (ht : G dt = some (.tup [.str d.1, vl, .ref s])) (hl : Dq K G vl (.list (d.2.1.map eP))) (gs : G s = none) (hs : H s = some (.lst ws)) (hw : DqAll K G ws (d.2.2.map eP)) :
      Dls K G H (some s) (us ++ [.ref dt]) (ds ++ [d])
structure Fnd (K : PySem.W.Frag) (G H : Hp) (t l1 l2 : Addr) (ls : Option Addr) (b : Book) : Prop where
  gt : G t = some (.tup [.ref l1, .ref l2])
  g1 : G l1 = none
  g2 : G l2 = none
  ne : l1 ≠ l2
  h1 : ∃ vs, H l1 = some (.lst vs) ∧ DqAll K G vs (b.1.map eK)
  h2 : ∃ vs, H l2 = some (.lst vs) ∧ Dls K G H ls vs b.2
  ns : ∀ s, ls = some s → s ≠ l1 ∧ s ≠ l2
def sz (b : Book) : Nat := b.1.length + b.2.length + (b.2.map fun d => d.2.2.length).sum
theorem mem_sum : ∀ {xs : List Nat} {x : Nat}, x ∈ xs → x ≤ xs.sum
  | y :: ys, x, h => by
    rw [List.sum_cons]
    rcases List.mem_cons.mp h with rfl | h
    · omega
    · have := mem_sum h
      omega
theorem snoc_last {α : Type} {xs ys : List α} {x y : α} (h : xs ++ [x] = ys ++ [y]) : xs = ys ∧ x = y := by
  have h1 := congrArg List.getLast? h
  have h2 := congrArg List.dropLast h
  rw [List.getLast?_append, List.getLast?_append] at h1
  rw [List.dropLast_concat, List.dropLast_concat] at h2
  exact ⟨h2, Option.some.inj h1⟩
section
variable {K : PySem.W.Frag} {G H G2 H2 : Hp} {t l1 l2 : Addr} {ls : Option Addr} {b : Book}
theorem gone {M : Addr → Prop} {a : Addr} {u : HO} (f : Fr M G H G2 H2) (g : G a = none) (h : H a = some u) : G2 a = none := by
  cases q : G2 a with
  | none => rfl
  | some x =>
    obtain ⟨z, ez⟩ := f.fr a x _ q h
    rw [g] at ez
    cases ez
theorem Dls.step {M : Addr → Prop} {vs : List V} {ds : List Deal} (f : Fr M G H G2 H2) (hm : ∀ s, ls = some s → ¬ M s) (h : Dls K G H ls vs ds) : Dls K G2 H2 ls vs ds := by
  cases h with
  | nil => exact .nil
  | more h ht hl gs hs hw => exact .more (Dq.monoAll f.gg _ _ h) (f.gg _ _ ht) (Dq.mono f.gg _ _ hl) (gone f gs hs) (f.hh _ _ (hm _ rfl) hs) (Dq.monoAll f.gg _ _ hw)
theorem Dls.open {vs : List V} {ds : List Deal} {s : Addr} (h : Dls K G H (some s) vs ds) : ∃ ws, H s = some (.lst ws) := by
  cases h with
  | more h ht hl gs hs hw => exact ⟨_, hs⟩
theorem Dls.len {vs : List V} {ds : List Deal} (h : Dls K G H ls vs ds) : vs.length = ds.length := by
  cases h with
  | nil => rfl
  | more h _ _ _ _ _ =>
    have := dpa_len h
    rw [List.length_map] at this
    rw [List.length_append, List.length_append, this]
    rfl
theorem Fnd.step {M : Addr → Prop} (F : Fnd K G H t l1 l2 ls b) (f : Fr M G H G2 H2) (m1 : ¬ M l1) (m2 : ¬ M l2) (hm : ∀ s, ls = some s → ¬ M s) : Fnd K G2 H2 t l1 l2 ls b where
  gt := f.gg _ _ F.gt
  g1 := by
    obtain ⟨vs, h, _⟩ := F.h1
    exact gone f F.g1 h
  g2 := by
    obtain ⟨vs, h, _⟩ := F.h2
    exact gone f F.g2 h
  ne := F.ne
  h1 := by
    obtain ⟨vs, h, hd⟩ := F.h1
    exact ⟨vs, f.hh _ _ m1 h, Dq.monoAll f.gg _ _ hd⟩
  h2 := by
    obtain ⟨vs, h, hd⟩ := F.h2
    exact ⟨vs, f.hh _ _ m2 h, hd.step f hm⟩
  ns := F.ns
theorem dps_app {vs ws : List V} {ds es : List PyData} (h : DpAll K H vs ds) (k : DpAll K H ws es) : DpAll K H (vs ++ ws) (ds ++ es) := by
  induction vs generalizing ds with
  | nil => cases h; exact k
  | cons v vs ih =>
    cases h with
    | cons a t => exact .cons a (ih t)
theorem Dls.dp {vs : List V} {ds : List Deal} (s : Same G H) (h : Dls K G H ls vs ds) : DpAll K H vs (ds.map eD) := by
  cases h with
  | nil => exact .nil
  | @more us ds d dt sp vl ws h ht hl gs hs hw =>
    rw [List.map_append]
    refine dps_app (Dq.dps _ _ (Dq.monoAll s _ _ h)) (.cons (.tup (.of (s _ _ ht)) (.cons (.str _) (.cons (Dq.dp _ _ (Dq.mono s _ _ hl)) (.cons (.lst (.of hs) (Dq.dps _ _ (Dq.monoAll s _ _ hw))) .nil)))) .nil)
theorem Fnd.dp2 (F : Fnd K G H t l1 l2 ls b) (s : Same G H) : Dp K H (.ref l2) (.list (b.2.map eD)) := by
  obtain ⟨vs, h, hd⟩ := F.h2
  exact .lst (.of h) (hd.dp s)
/-- the lists that may change -/
abbrev Mf (l1 l2 : Addr) (ls : Option Addr) : Addr → Prop := fun a => a = l1 ∨ a = l2 ∨ ls = some a
theorem Fnd.lists (F : Fnd K G H t l1 l2 ls b) : ∀ a, Mf l1 l2 ls a → ∃ xs, H a = some (.lst xs) := fun a m => by
  rcases m with rfl | rfl | rfl
  · obtain ⟨vs, h, _⟩ := F.h1
    exact ⟨vs, h⟩
  · obtain ⟨vs, h, _⟩ := F.h2
    exact ⟨vs, h⟩
  · obtain ⟨vs, h, hd⟩ := F.h2
    exact hd.open
/-- a kind more -/
theorem Fnd.kind (F : Fnd K G H t l1 l2 ls b) (s : Same G H) {vs : List V} (hv : H l1 = some (.lst vs)) {v : V} {k : Str × Bool} (h : Dq K G v (eK k)) : Gw (Mf l1 l2 ls) G H G (upd H l1 (.lst (vs ++ [v]))) ∧ Fnd K G (upd H l1 (.lst (vs ++ [v]))) t l1 l2 ls (b.1 ++ [k], b.2) := by
  obtain ⟨ws, h1, hd⟩ := F.h1
  rw [hv] at h1
  cases h1
  refine ⟨(Gw.put s hv F.g1).weak fun a e => .inl e, F.gt, F.g1, F.g2, F.ne, ⟨_, upd_same, ?_⟩, ?_, F.ns⟩
  · show DqAll K G _ ((b.1 ++ [k]).map eK)
    rw [List.map_append]
    exact dpa_app hd (dpa_one h)
  · obtain ⟨us, hu, hq⟩ := F.h2
    refine ⟨us, by rw [upd_ne F.ne.symm]; exact hu, ?_⟩
    have ns := F.ns
    show Dls K G _ ls us b.2
    revert hq
    generalize b.2 = bs
    intro hq
    cases hq with
    | nil => exact .nil
    | @more us ds d dt sp vl ws h ht hl gs hs hw => exact .more h ht hl gs (by rw [upd_ne (ns _ rfl).1]; exact hs) hw
/-- a step more -/
theorem Fnd.stp {s : Addr} (F : Fnd K G H t l1 l2 (some s) b) (sg : Same G H) {vs : List V} (hv : H s = some (.lst vs)) {v : V} {p : Pr} (h : Dq K G v (eP p)) : Gw (Mf l1 l2 (some s)) G H G (upd H s (.lst (vs ++ [v]))) ∧ Fnd K G (upd H s (.lst (vs ++ [v]))) t l1 l2 (some s) (b.1, addL b.2 p) := by
  obtain ⟨n1, n2⟩ := F.ns s rfl
  obtain ⟨us, hu, hq⟩ := F.h2
  have key : G s = none ∧ Dls K G (upd H s (.lst (vs ++ [v]))) (some s) us (addL b.2 p) := by
    generalize b.2 = bs at hq
    cases hq with
    | @more us ds d dt sp vl ws hh ht hl gs hs hw =>
      rw [hv] at hs
      cases hs
      refine ⟨gs, ?_⟩
      rw [addL_snoc]
      refine .more (d := (d.1, d.2.1, d.2.2 ++ [p])) hh ht hl gs upd_same ?_
      show DqAll K G _ ((d.2.2 ++ [p]).map eP)
      rw [List.map_append]
      exact dpa_app hw (dpa_one h)
  refine ⟨(Gw.put sg hv key.1).weak fun a e => .inr (.inr (congrArg some e.symm)), F.gt, F.g1, F.g2, F.ne, ?_, ⟨us, by rw [upd_ne n2.symm]; exact hu, key.2⟩, F.ns⟩
  obtain ⟨ws, hw, hd⟩ := F.h1
  exact ⟨ws, by rw [upd_ne n1.symm]; exact hw, hd⟩
/-- the last steps are closed: all is known -/
theorem Dls.close {vs : List V} {ds : List Deal} (s : Same G H) (h : Dls K G H ls vs ds) : ∃ G2, Gw (fun a => ls = some a) G H G2 H ∧ DqAll K G2 vs (ds.map eD) ∧ ∀ a, G a = none → ls ≠ some a → G2 a = none := by
  cases h with
  | nil => exact ⟨G, (Fr.refl (M := M0) s).gw.weak fun a z => z.elim, .nil, fun a h _ => h⟩
  | @more us ds d dt sp vl ws h ht hl gs hs hw =>
    have g := Gw.keep s hs gs
    refine ⟨upd G sp (.lst ws), g.weak fun a e => congrArg some e.symm, ?_, fun a h n => by rw [upd_ne (fun q => n (by rw [q]))]; exact h⟩
    rw [List.map_append]
    exact dpa_app (Dq.monoAll g.gg _ _ h) (dpa_one (.tup (g.gg _ _ ht) (.cons (.str _) (.cons (Dq.mono g.gg _ _ hl) (.cons (.lst upd_same (Dq.monoAll g.gg _ _ hw)) .nil)))))
/-- a dealing more -/
theorem Fnd.deal (F : Fnd K G H t l1 l2 ls b) (s : Same G H) {vs : List V} (hv : H l2 = some (.lst vs)) {dt sp : Addr} {vl : V} {n : Str} {ps : List Pr} (ht : G dt = some (.tup [.str n, vl, .ref sp])) (hl : Dq K G vl (.list (ps.map eP))) (gs : G sp = none) (hs : H sp = some (.lst [])) (n1 : sp ≠ l1) (n2 : sp ≠ l2) (n3 : ls ≠ some sp) :
    ∃ G2, Gw (Mf l1 l2 ls) G H G2 (upd H l2 (.lst (vs ++ [.ref dt]))) ∧ Fnd K G2 (upd H l2 (.lst (vs ++ [.ref dt]))) t l1 l2 (some sp) (b.1, b.2 ++ [(n, ps, [])]) := by
  obtain ⟨us, hu, hq⟩ := F.h2
  rw [hv] at hu
  cases hu
  obtain ⟨G2, g, hd, hn⟩ := hq.close s
  have k1 : G2 l1 = none := hn _ F.g1 fun e => (F.ns _ e).1 rfl
  have k2 : G2 l2 = none := hn _ F.g2 fun e => (F.ns _ e).2 rfl
  have g2 := (g.weak fun a e => (Or.inr (Or.inr e) : Mf l1 l2 ls a)).trans ((Gw.put (o := .lst (vs ++ [.ref dt])) g.gh hv k2).weak fun a e => (Or.inr (Or.inl e) : Mf l1 l2 ls a))
  refine ⟨G2, g2, g.gg _ _ F.gt, k1, k2, F.ne, ?_, ⟨_, upd_same, .more hd (g.gg _ _ ht) (Dq.mono g.gg _ _ hl) (hn _ gs n3) (by rw [upd_ne n2]; exact hs) .nil⟩, fun a e => by cases e; exact ⟨n1, n2⟩⟩
  obtain ⟨ws, hw, hq⟩ := F.h1
  exact ⟨ws, by rw [upd_ne F.ne]; exact hw, Dq.monoAll g.gg _ _ hq⟩
/-- all is known in the end -/
theorem Fnd.done (F : Fnd K G H t l1 l2 ls b) (s : Same G H) : ∃ G2, Gw (Mf l1 l2 ls) G H G2 H ∧ Dq K G2 (.ref t) (eB b) := by
  obtain ⟨vs, hv, hq⟩ := F.h2
  obtain ⟨ws, hw, hk⟩ := F.h1
  obtain ⟨G2, g, hd, hn⟩ := hq.close s
  have k1 : G2 l1 = none := hn _ F.g1 fun e => (F.ns _ e).1 rfl
  have k2 : G2 l2 = none := hn _ F.g2 fun e => (F.ns _ e).2 rfl
  have g1 := Gw.keep g.gh hv k2
  have g2 := Gw.keep g1.gh hw (by rw [upd_ne F.ne]; exact k1)
  refine ⟨_, ((g.weak fun a e => (Or.inr (Or.inr e) : Mf l1 l2 ls a)).trans (g1.weak fun a e => (Or.inr (Or.inl e) : Mf l1 l2 ls a))).trans (g2.weak fun a e => (Or.inl e : Mf l1 l2 ls a)), ?_⟩
  have up := g1.gg.trans g2.gg
  refine .tup (up _ _ (g.gg _ _ F.gt)) (.cons (.lst upd_same (Dq.monoAll (g.gg.trans up) _ _ hk)) (.cons (.lst (g2.gg _ _ upd_same) (Dq.monoAll up _ _ hd)) .nil))
end
/-! ### what is read stays small and sound -/
theorem sz_add (b : Book) (r : Rw) : sz (addR b r) ≤ sz b + 1 := by
  obtain ⟨ks, bs⟩ := b
  cases r with
  | kind n m =>
    show (ks ++ [(n, m)]).length + bs.length + (bs.map fun d : Deal => d.2.2.length).sum ≤ ks.length + bs.length + (bs.map fun d : Deal => d.2.2.length).sum + 1
    rw [List.length_append]
    show ks.length + 1 + _ + _ ≤ _
    omega
  | deal n ls =>
    show ks.length + (bs ++ [(n, ls, [])]).length + ((bs ++ [(n, ls, [])]).map fun d : Deal => d.2.2.length).sum ≤ ks.length + bs.length + (bs.map fun d : Deal => d.2.2.length).sum + 1
    rw [List.length_append, List.map_append, List.sum_append]
    show ks.length + (bs.length + 1) + (_ + (0 + 0)) ≤ _
    omega
  | step d l =>
    show ks.length + (addL bs (d, l)).length + ((addL bs (d, l)).map fun d : Deal => d.2.2.length).sum ≤ ks.length + bs.length + (bs.map fun d : Deal => d.2.2.length).sum + 1
    rcases List.eq_nil_or_concat bs with e | ⟨ds, x, e⟩
    · rw [e]
      show ks.length + ([] : List Deal).length + (([] : List Deal).map fun d : Deal => d.2.2.length).sum ≤ _
      omega
    · rw [List.concat_eq_append] at e
      rw [e, addL_snoc]
      simp only [List.length_append, List.map_append, List.sum_append, List.map_cons, List.map_nil, List.sum_cons, List.sum_nil, List.length_cons, List.length_nil]
      omega
theorem cb_add {b : Book} {r : Rw} (h : Cb b) (ok : RwOk r) : Cb (addR b r) := by
  cases r with
  | kind n m =>
    refine ⟨fun k hk => ?_, h.dl⟩
    rcases List.mem_append.mp hk with z | z
    · exact h.kn k z
    · rw [List.mem_singleton.mp z]
      exact ok.sh
  | deal n ls =>
    refine ⟨h.kn, fun d hd => ?_⟩
    rcases List.mem_append.mp hd with z | z
    · exact h.dl d z
    · rw [List.mem_singleton.mp z]
      exact ⟨ok.sh.2.2.2, ok.sh.2.2.1, fun p hp => by cases hp⟩
  | step d l =>
    refine ⟨h.kn, fun e he => ?_⟩
    have he : e ∈ addL b.2 (d, l) := he
    have hb := h.dl
    generalize b.2 = bs at he hb
    rcases List.eq_nil_or_concat bs with q | ⟨ds, x, q⟩
    · rw [q] at he
      cases he
    · rw [List.concat_eq_append] at q
      subst q
      rw [addL_snoc] at he
      rcases List.mem_append.mp he with z | z
      · exact hb e (List.mem_append_left _ z)
      · rw [List.mem_singleton.mp z]
        obtain ⟨h1, h2, h3⟩ := hb x (List.mem_append_right _ (List.mem_singleton.mpr rfl))
        refine ⟨h1, h2, fun p hp => ?_⟩
        rcases List.mem_append.mp hp with y | y
        · exact h3 p y
        · rw [List.mem_singleton.mp y]
          exact ok.sh
end SN

/-! SN: shown and read. -/
namespace SN
open PySem L2
theorem sum_le {k : Nat} : ∀ {xs : List Str}, (∀ x ∈ xs, x.length ≤ k) → (xs.map (·.length)).sum ≤ xs.length * k
  | [], _ => Nat.zero_le _
  | x :: xs, h => by
    have h1 := h x (List.mem_cons_self ..)
    have h2 := sum_le (xs := xs) fun y hy => h y (List.mem_cons_of_mem _ hy)
    show x.length + (xs.map (·.length)).sum ≤ (xs.length + 1) * k
    rw [Nat.succ_mul]
    omega
theorem row_sum {r : Rw} (h : RwOk r) : (r.words.map (·.length)).sum + r.words.length * sSp.length ≤ 100000 := by
  have h1 := sum_le h.ln.2.2
  have h2 : sSp.length = 1 := by decide +kernel
  have h3 := h.ln.2.1
  rw [h2]
  omega
theorem rows_sum {b : Book} (w : WB b) : (((rowsB b).map Rw.text).map (·.length)).sum + ((rowsB b).map Rw.text).length * sNl.length ≤ 100000 := by
  have h1 := sum_le (k := 66) (xs := (rowsB b).map Rw.text) fun x hx => by
    obtain ⟨r, hr, rfl⟩ := List.mem_map.mp hx
    exact row_len (rows_ok w r hr)
  have h2 : sNl.length = 1 := by decide +kernel
  have h3 := (rows_len w).2
  rw [h2]
  rw [List.length_map] at h1 ⊢
  omega
theorem step_text (d l : Str) : Rw.text (.step d l) = d ++ sSp ++ l := by
  unfold Rw.text
  rw [TL.join_eq]
  rfl
abbrev tx (r : Rw) : PyData := .str r.text
section
variable {P : Program} {w : World} {K : PySem.W.Frag} {mg : Str → Option Value} {base : Heap} {f : Addr} {fd : FuncData}
abbrev N_shown : List Str := ["book", "rows", "kind", "many", "name", "letters", "steps", "letter", "deed"]
abbrev P_shown : List Str := ["book"]
theorem sc_shown : FnScope N_shown P_shown (defScope (topS 35)) := ⟨rfl, rfl, rfl, by decide +kernel, rfl, by decide +kernel, by decide +kernel⟩
def R_shown (ds : List PyData) (z : PyData) : Prop := ∃ b : Book, ds = [eB b] ∧ WB b ∧ z = .str (textB b)
theorem ok_shown (T : Tx w K mg) (F : FnP K "shown" 35 [] f fd) : FnOk P w K mg base CX0 1 f fd P_shown (pureSp K R_shown) := by
  have nd := sc_shown.nd
  refine pure_fn F sc_shown (fun ds z ⟨_, e, _⟩ => e ▸ rfl) fun cdv A outer s H E hr => ⟨_, (pss_cons (ps_set (i := 1) nd rfl (Or.inl rfl) (pe_lst pa_nil))
      (pss_cons (ps_for PassesOwn.never rfl (pi_list (pe_ix (r := rIxT K) ix_tup (pv 0) pe_int (fun _ _ => rfl))) (pg_tup rfl (pgs_cons (pg_name (i := 2) nd rfl (Or.inl rfl)) (pgs_cons (pg_name (i := 3) nd rfl (Or.inl rfl)) pgs_nil))) (pss_one (ps_expr (pe_bm PySem.F.plainAttrs_list PySem.F.slot_list_append PySem.F.type_list_append mt_append (pv 1) (pa_cons (pe_join pe_str (pe_lst (pa_cons pe_str (pa_cons (pv 2) (pa_cons (pe_ix (r := rIxL K) ix_list (pe_lst (pa_cons pe_str (pa_cons pe_str pa_nil))) (pe_callTy call_int1 (by rfl) T.int (by decide +kernel) (pa_cons (pv 3) pa_nil)) (fun _ _ => rfl)) pa_nil))))) pa_nil)))))
      (pss_cons (ps_for PassesOwn.never rfl (pi_list (pe_ix (r := rIxT K) ix_tup (pv 0) pe_int (fun _ _ => rfl))) (pg_tup rfl (pgs_cons (pg_name (i := 4) nd rfl (Or.inl rfl)) (pgs_cons (pg_name (i := 5) nd rfl (Or.inl rfl)) (pgs_cons (pg_name (i := 6) nd rfl (Or.inl rfl)) pgs_nil)))) (pss_cons (ps_expr (pe_bm PySem.F.plainAttrs_list PySem.F.slot_list_append PySem.F.type_list_append mt_append (pv 1) (pa_cons (pe_join pe_str (pe_op op_cat (pe_lst (pa_cons pe_str (pa_cons (pv 4) pa_nil))) (pe_lc (own := [("letter", 7), ("kind", 2)]) (g := gTup K 2 (gCons (gName 7) (gCons (gName 2) (gNil)))) (tt := tYes) rfl nd (pi_list (pv 5)) (blkOk_by (N := N_shown) (sc := defScope (topS 35)) (by decide +kernel)) (fun _ _ _ _ _ => (pg_tup rfl (pgs_cons (pg_name (i := 7) nd rfl (Or.inl rfl)) (pgs_cons (pg_name (i := 2) nd rfl (Or.inl rfl)) pgs_nil)))) (fun _ _ _ _ _ => pts_nil) (fun _ _ _ _ _ => (pe_op op_add_str (pe_op op_add_str (pv 7) pe_str) (pv 2)))))) pa_nil)))
        (pss_one (ps_expr (pe_bm PySem.F.plainAttrs_list PySem.F.slot_list_extend PySem.F.type_list_extend mt_extend (pv 1) (pa_cons (pe_lc (own := [("deed", 8), ("letter", 7)]) (g := gTup K 2 (gCons (gName 8) (gCons (gName 7) (gNil)))) (tt := tYes) rfl nd (pi_list (pv 6)) (blkOk_by (N := N_shown) (sc := defScope (topS 35)) (by decide +kernel)) (fun _ _ _ _ _ => (pg_tup rfl (pgs_cons (pg_name (i := 8) nd rfl (Or.inl rfl)) (pgs_cons (pg_name (i := 7) nd rfl (Or.inl rfl)) pgs_nil)))) (fun _ _ _ _ _ => pts_nil) (fun _ _ _ _ _ => (pe_op op_add_str (pe_op op_add_str (pv 8) pe_str) (pv 7)))) pa_nil))))))
      (pss_one (ps_ret (pe_join pe_str (pv 1))))))), fun G H ds z Q hR q => ?_⟩
  obtain ⟨b, rfl, wf, rfl⟩ := hR
  have rl := (rows_len wf).2
  have ok := rows_ok wf
  refine nx_seq (nx_own ?_)
  refine nx_seq (nx_forD (fun i => [Sl.dat (eB b), .own (((b.1.take i).map fun k => Rw.kind k.1 k.2).map tx), .un, .un, .un, .un, .un, .un, .un]) (wk_list (ev_op (ev_var rfl) ev_int (oo_ixT rfl))) (.same (.same (.same (.same (.same (.same (.same (.same (.same .nil))))))))) (fun i d G1 hd => ?_) ?_)
  · obtain ⟨k, hi, rfl⟩ := map_inv hd
    have hm : Rw.kind k.1 k.2 ∈ rowsB b := List.mem_append_left _ (List.mem_map.mpr ⟨k, List.mem_of_getElem? hi, rfl⟩)
    have rk := ok _ hm
    have e1 : atI [PyData.str sOne, .str sMany] (if k.2 then 1 else 0) = some (.str (if k.2 then sMany else sOne)) := by
      cases k.2 <;> rfl
    refine ⟨_, [2, 3], tg_tup2 (by decide) (by decide), ?_⟩
    refine nx_appD (d := tx (.kind k.1 k.2)) rfl rfl ?_ (ev_join (a := sSp) (ys := (Rw.kind k.1 k.2).words) ev_str (ev_lst (ea_cons ev_str (ea_cons (ev_var rfl) (ea_cons (ev_op (ev_lst (ea_cons ev_str (ea_cons ev_str ea_nil)) (by show 2 ≤ 1000; decide)) (ev_cb (ea_cons (ev_var rfl) ea_nil) cb_int1b) (oo_ixL e1)) ea_nil))) (by show 3 ≤ 1000; decide)) (row_sum rk)) ?_
    · rw [List.length_map, List.length_map, List.length_take]
      have := wf.k6
      omega
    · refine nx_kx rfl ?_
      rw [take_map hi, List.map_append]
      exact .same (.same (.un (.un (.same (.same (.same (.same (.same .nil))))))))
  · rw [List.length_map, List.take_length]
    refine nx_seq (nx_forD (fun i => [Sl.dat (eB b), .own (((b.1.map fun k => Rw.kind k.1 k.2) ++ (b.2.take i).flatMap rowsD).map tx), .un, .un, .un, .un, .un, .un, .un]) (wk_list (ev_op (ev_var rfl) ev_int (oo_ixT rfl))) ?_ (fun i d G1 hd => ?_) ?_)
    · have e : (b.1.map fun k => Rw.kind k.1 k.2) ++ (b.2.take 0).flatMap rowsD = b.1.map fun k => Rw.kind k.1 k.2 := List.append_nil _
      rw [e]
      exact .same (.same (.same (.same (.same (.same (.same (.same (.same .nil))))))))
    · obtain ⟨d, hi, rfl⟩ := map_inv hd
      have hm := List.mem_of_getElem? hi
      have wd := wf.ds d hm
      have l4 := wd.l4
      have s8 := wd.s8
      have inb : ∀ r ∈ rowsD d, RwOk r := fun r hr => ok r (List.mem_append_right _ (List.mem_flatMap.mpr ⟨d, hm, hr⟩))
      have rd := inb (.deal d.1 d.2.1) (List.mem_cons_self ..)
      have cap : ((b.1.map fun k => Rw.kind k.1 k.2) ++ (b.2.take i).flatMap rowsD).length ≤ 100 := by
        refine Nat.le_trans ?_ rl
        unfold rowsB
        rw [List.length_append, List.length_append]
        have h1 : (b.2.flatMap rowsD).length = ((b.2.take i).flatMap rowsD).length + ((b.2.drop i).flatMap rowsD).length := by
          rw [← List.length_append, ← List.flatMap_append, List.take_append_drop]
        omega
      refine ⟨_, [4, 5, 6], tg_tup3 (by decide) (by decide) (by decide), ?_⟩
      refine nx_seq (nx_appD (d := tx (.deal d.1 d.2.1)) rfl rfl ?_ (ev_join (a := sSp) (ys := (Rw.deal d.1 d.2.1).words) ev_str ?_ (row_sum rd)) ?_)
      · rw [List.length_map]
        omega
      · refine EvD.of (ev_op (ev_lst (ea_cons ev_str (ea_cons (ev_var rfl) ea_nil)) (by show 2 ≤ 1000; decide)) (ev_lc (xs := d.2.1) (fun p => .str (ltW p)) (wk_list (ev_var rfl)) (by omega) fun p hp => ⟨_, tg_tup2 (by decide) (by decide), ev_op (ev_op (ev_var rfl) ev_str (oo_addS ?_)) (ev_var rfl) (oo_addS ?_)⟩) (oo_cat (by rw [List.length_map]; show 2 + _ ≤ 1000; omega))) ?_
        · have h1 := let_len (wd.lt p hp).1
          have h2 : (Str.ofString ":").length = 1 := by decide +kernel
          show p.1.length + (Str.ofString ":").length ≤ 1000
          omega
        · have h1 := let_len (wd.lt p hp).1
          have h2 : (Str.ofString ":").length = 1 := by decide +kernel
          obtain ⟨k, hk, e⟩ := List.mem_map.mp (wd.lt p hp).2
          have h3 := (wf.kn k hk).2.1
          rw [e] at h3
          show (p.1 ++ Str.ofString ":").length + p.2.length ≤ 1000
          rw [Str.length_append]
          omega
        · show PyData.list _ = .list _
          show PyData.list ([PyData.str sDeal, .str d.1] ++ _) = .list (([sDeal, d.1] ++ d.2.1.map ltW).map .str)
          rw [List.map_append, List.map_map]
          rfl
      · refine nx_ext (es := (d.2.2.map fun p => Rw.step p.1 p.2).map tx) rfl rfl ?_ (EvD.of (ev_lc (xs := d.2.2) (fun p => tx (.step p.1 p.2)) (wk_list (ev_var rfl)) (by omega) fun p hp => ⟨_, tg_tup2 (by decide) (by decide), EvD.of (ev_op (ev_op (ev_var rfl) ev_str (oo_addS ?_)) (ev_var rfl) (oo_addS ?_)) (congrArg PyData.str (step_text p.1 p.2).symm)⟩) (by rw [List.map_map]; rfl)) ?_
        · rw [List.length_append, List.length_map, List.length_map, List.length_map]
          show _ + 1 + _ ≤ 1000
          omega
        · have h1 := (dds_ok p.1 (wd.st p hp).1).2.2.2.1
          have h2 : (Str.ofString " ").length = 1 := by decide +kernel
          show p.1.length + (Str.ofString " ").length ≤ 1000
          omega
        · have h1 := (dds_ok p.1 (wd.st p hp).1).2.2.2.1
          have h2 : (Str.ofString " ").length = 1 := by decide +kernel
          obtain ⟨y, hy, e⟩ := List.mem_map.mp (wd.st p hp).2
          have h3 := let_len (wd.lt y hy).1
          rw [e] at h3
          show (p.1 ++ Str.ofString " ").length + p.2.length ≤ 1000
          rw [Str.length_append]
          omega
        · refine nx_kx rfl ?_
          have e : ((b.1.map fun k => Rw.kind k.1 k.2) ++ (b.2.take (i + 1)).flatMap rowsD).map tx = (((b.1.map fun k => Rw.kind k.1 k.2) ++ (b.2.take i).flatMap rowsD).map tx ++ [tx (.deal d.1 d.2.1)]) ++ (d.2.2.map fun p => Rw.step p.1 p.2).map tx := by
            rw [take_more hi, List.flatMap_append]
            simp [rowsD]
          rw [e]
          exact .same (.same (.same (.same (.un (.un (.un (.same (.same .nil))))))))
    · rw [List.length_map, List.take_length]
      refine nx_freeze (i := 1) rfl rfl ?_
      refine nx_out ?_ q
      exact ev_join (a := sNl) (ys := (rowsB b).map Rw.text) ev_str (EvD.of (ev_var rfl) (by unfold eS; rw [List.map_map]; rfl)) (rows_sum wf)

abbrev N_read_letter : List Str := ["word", "letter", "mark", "kind"]
abbrev P_read_letter : List Str := ["word"]
theorem sc_read_letter : FnScope N_read_letter P_read_letter (defScope (topS 36)) := ⟨rfl, rfl, rfl, by decide +kernel, rfl, by decide +kernel, by decide +kernel⟩
def R_read_letter (ds : List PyData) (z : PyData) : Prop := ∃ p : Pr, ds = [.str (ltW p)] ∧ IsLet p.1 ∧ IsName p.2 ∧ z = eP p
theorem ok_read_letter (T : Tx w K mg) (F : FnP K "read_letter" 36 [] f fd) : FnOk P w K mg base CX0 1 f fd P_read_letter (pureSp K R_read_letter) := by
  have nd := sc_read_letter.nd
  refine pure_fn F sc_read_letter (fun ds z ⟨_, e, _⟩ => e ▸ rfl) fun cdv A outer s H E hr => ⟨_, (pss_cons (ps_asg (pe_rpart (pv 0) pe_str) (pg_tup rfl (pgs_cons (pg_name (i := 1) nd rfl (Or.inl rfl)) (pgs_cons (pg_name (i := 2) nd rfl (Or.inl rfl)) (pgs_cons (pg_name (i := 3) nd rfl (Or.inl rfl)) pgs_nil)))))
      (pss_cons (ps_if (PW.pt (pw_or (pt_cmpR op_eq (pv 1) pe_str (nomark _)) (pw_or (pt_cmpR op_eq (pv 3) pe_str (nomark _)) (pw_or1 (pt_cmpR op_in_sign pe_str (pv 1) (by rfl)))))) (pss_one (ps_ret pe_non)) pss_nil)
      (pss_one (ps_ret (pe_tup (pa_cons (pv 1) (pa_cons (pv 3) pa_nil))))))), fun G H ds z Q hR q => ?_⟩
  obtain ⟨p, rfl, h1, h2, rfl⟩ := hR
  have ec : (Str.ofString ":") = ⟨#[58]⟩ := by decide +kernel
  have ne1 := (name_free (let_name h1)).1
  have ne2 := (name_free h2).1
  have no1 : 58 ∉ p.1.cps.toList := fun m => by
    have := alpha_lt 58 ((let_name h1).2.2 58 m)
    omega
  have no2 : 58 ∉ TL.tl p.2 := fun m => by
    have := alpha_lt 58 (h2.2.2 58 m)
    omega
  have el : ltW p = p.1 ++ ⟨#[58]⟩ ++ p.2 := by
    show p.1 ++ Str.ofString ":" ++ p.2 = _
    rw [ec]
  refine nx_seq (nx_unp3 (ev_rpart (EvD.of (ev_var rfl) (congrArg PyData.str el)) (EvD.of ev_str (congrArg PyData.str ec)) no2 (by rw [← el]; have := ltW_len h1 h2; omega)) ?_)
  refine nx_seq (nx_ifF (et_orF (et_test (EvD.of (ev_op (ev_var rfl) ev_str oo_eqS) (congrArg PyData.bool (decide_eq_false ne1)))) (et_orF (et_test (EvD.of (ev_op (ev_var rfl) ev_str oo_eqS) (congrArg PyData.bool (decide_eq_false ne2))))
    (et_test (EvD.of (ev_op (EvD.of ev_str (congrArg PyData.str ec)) (ev_var rfl) oo_inSign) (congrArg PyData.bool (decide_eq_false no1)))))) (nx_next ?_))
  refine nx_out ?_ q
  exact ev_tup (ea_cons (ev_var rfl) (ea_cons (ev_var rfl) ea_nil)) (by show 2 ≤ 1000; decide)

/-- a row is read: what is found grows by it -/
def rdSp (K : PySem.W.Frag) (S : Rw → PyData → Prop) : Sp := fun vs H Q _ => ∃ (G : Hp) (v : V) (d : PyData) (t l1 l2 : Addr) (ls : Option Addr) (b : Book) (r : Rw), vs = [v, .ref t] ∧ Same G H ∧ Dq K G v d ∧ S r d ∧ Fnd K G H t l1 l2 ls b ∧ Cb b ∧ sz b ≤ 500 ∧ okR b r ∧ RwOk r ∧
  ∀ ls' G2 H2, Gw (Mf l1 l2 ls) G H G2 H2 → Fnd K G2 H2 t l1 l2 ls' (addR b r) → (∀ s, ls' = some s → ls = some s ∨ H s = none) → Q (.bl true) H2
section
variable {G H : Hp} {Γ : List Sl} {te : TE} {t l1 l2 : Addr} {ls : Option Addr} {b : Book} {i : Nat}
theorem fm_rd {N : List Str} {v : V} {d : PyData} (s : Same G H) (h : Dq K G v d) : Fm (Cp K G H) (start N [v, .ref t]) ([.dat d, .adr t] ++ List.replicate (N.length - 2) .un) G H where
  fr := Fr.refl s
  inv := trivial
  len := by
    unfold L2.start
    simp
  sl := fun i s e => by
    unfold L2.start
    match i, e with
    | 0, e => cases e; exact ⟨_, rfl, v, rfl, h⟩
    | 1, e => cases e; exact ⟨_, rfl, rfl⟩
    | j + 2, e =>
      have e : (List.replicate (N.length - 2) Sl.un)[j]? = some s := e
      show ∃ o, (List.replicate (N.length - 2) (none : Option V))[j]? = some o ∧ _
      rw [List.getElem?_replicate] at e ⊢
      by_cases h : j < N.length - 2
      · rw [if_pos h] at e ⊢
        cases e
        exact ⟨none, rfl, trivial⟩
      · rw [if_neg h] at e
        cases e
theorem ev_fnd2 {r : R2} {z : Bool} (F : Fnd K G H t l1 l2 ls b) (hi : Γ[i]? = some (.adr t)) (hr : ∀ (G2 H2 : Hp) (p : Addr) (Q : VK), Dp K H2 (.ref l2) (.list (b.2.map eD)) → H2 p = some (.lst []) → Q (.bl z) H2 → r (.ref l2) (.ref p) H2 Q) :
    EvD (Cp K G H) (tOp r (tOp (rIxT K) (tVar i) (tC (.int 1))) (tLst tNil)) Γ (.bool z) := fun σ G1 H1 E Q q => by
  obtain ⟨o, e, rfl⟩ := E.sl i _ hi
  have F1 := F.step E.fr (fun z => z) (fun z => z) (fun _ _ z => z)
  refine ⟨.ref t, e, t, _, 1, .ref l2, rfl, rfl, .of (E.fr.gh _ _ F1.gt), rfl, Nat.zero_le _, fun p hp => ?_⟩
  have f : Fr M0 G1 H1 G1 (upd H1 p (.lst [])) := Fr.newU E.fr.gh hp
  have F2 := F1.step f (fun z => z) (fun z => z) (fun _ _ z => z)
  exact hr G1 _ p Q (F2.dp2 f.gh) upd_same (q _ _ _ _ rfl f trivial (.bl _))
theorem ev_neF (F : Fnd K G H t l1 l2 ls b) (c : Cb b) (hi : Γ[i]? = some (.adr t)) : EvD (Cp K G H) (tOp (rNeD K) (tOp (rIxT K) (tVar i) (tC (.int 1))) (tLst tNil)) Γ (.bool (!PyData.eqv (.list (b.2.map eD)) (.list []))) :=
  ev_fnd2 F hi fun G2 H2 p Q hd hp q => ⟨_, .list [], hd, .lst (.of hp) .nil, c.dls.shaped (by decide), (sd_list (n := 0) sda_nil).shaped (by decide), q⟩
theorem ev_eqF (F : Fnd K G H t l1 l2 ls b) (c : Cb b) (hi : Γ[i]? = some (.adr t)) : EvD (Cp K G H) (tOp (rEqD K) (tOp (rIxT K) (tVar i) (tC (.int 1))) (tLst tNil)) Γ (.bool (PyData.eqv (.list (b.2.map eD)) (.list []))) :=
  ev_fnd2 F hi fun G2 H2 p Q hd hp q => ⟨_, .list [], hd, .lst (.of hp) .nil, c.dls.shaped (by decide), (sd_list (n := 0) sda_nil).shaped (by decide), q⟩
end
theorem eqv_nn : PyData.eqv (.list []) (.list []) = true := by rw [PyData.eqv, PyData.eqvAll]

abbrev N_read_kind : List Str := ["words", "found", "many"]
abbrev P_read_kind : List Str := ["words", "found"]
theorem sc_read_kind : FnScope N_read_kind P_read_kind (defScope (topS 37)) := ⟨rfl, rfl, rfl, by decide +kernel, rfl, by decide +kernel, by decide +kernel⟩
def S_kind (r : Rw) (d : PyData) : Prop := d = eS r.words ∧ ∃ n m, r = .kind n m
theorem ok_read_kind (T : Tx w K mg) (F : FnP K "read_kind" 37 [] f fd) : FnOk P w K mg base CX0 1 f fd P_read_kind (rdSp K S_kind) := by
  have nd := sc_read_kind.nd
  refine own_fn F sc_read_kind (fun vs H Q E ⟨_, _, _, _, _, _, _, _, _, e, _⟩ => e ▸ rfl) fun cdv A outer s H E hr => ⟨_, (pss_cons (ps_if (PW.pt (pw_or (pt_cmpR op_ne (pe_callB (r := fun xs H Q => ∃ x n, xs = [x] ∧ LenV K x H n ∧ Q (.int n) H) call_len (by rfl) T.len (by decide +kernel) (pa_cons (pv 0) pa_nil)) pe_int (nomark _)) (pw_or1 (pt_cmpR (op_neD hr.units) (pe_ix (r := rIxT K) ix_tup (pv 1) pe_int (fun _ _ => rfl)) (pe_lst pa_nil) (nomark _))))) (pss_one (ps_ret pe_bl)) pss_nil)
      (pss_cons (ps_try_thru0 (pss_one (ps_set (i := 2) nd rfl (Or.inl rfl) (pe_ix ix_kdict (gref T.gMANY) (pe_ix (r := rIxL K) ix_list (pv 0) pe_int (fun _ _ => rfl)) (fun _ _ => rfl)))))
      (pss_cons (ps_expr (pe_bm PySem.F.plainAttrs_list PySem.F.slot_list_append PySem.F.type_list_append mt_append (pe_ix (r := rIxT K) ix_tup (pv 1) pe_int (fun _ _ => rfl)) (pa_cons (pe_tup (pa_cons (pe_ix (r := rIxL K) ix_list (pv 0) pe_int (fun _ _ => rfl)) (pa_cons (pv 2) pa_nil))) pa_nil)))
      (pss_one (ps_ret pe_bl))))), fun vs H Q ⟨G, v, d, t, l1, l2, ls, b, r, ev, sg, hv, ⟨ed, n, m, er⟩, F, cb, zb, ok, rk, q⟩ => ?_⟩
  subst ev; subst ed; subst er
  refine (?_ : Nx (Cp K G H) _ _) _ G H (fm_rd sg hv)
  have e0 : b.2 = [] := ok
  refine nx_seq (nx_ifF (et_orF (et_test (ev_lenNe (ev_var rfl) cb_lenL ev_int rfl)) (et_test (EvD.of (ev_neF F cb rfl) (by rw [e0]; exact congrArg (fun z => PyData.bool (!z)) eqv_nn)))) (nx_next ?_))
  refine nx_seq (nx_asgD (d := .bool m) ?_ ?_)
  · intro σ G2 H2 E Q q
    refine fun a ha => (ev_op (C := Cp K G H) (ev_var rfl) ev_int (oo_ixL (z := .str (if m then sMany else sOne)) rfl) : EvD (Cp K G H) _ _ _) σ G2 H2 E _ fun y d G3 H3 p f iv hy => ?_
    subst p
    have ey := dp_str hy
    subst ey
    refine ⟨a, _, .bl m, rfl, rfl, ?_, q _ _ G3 H3 rfl f iv (.bl _)⟩
    cases m
    · exact ha.2
    · exact ha.1
  intro σ G2 H2 E
  obtain ⟨o, e, rfl⟩ := E.sl 1 _ rfl
  have F2 := F.step E.fr (fun z => z) (fun z => z) (fun _ _ z => z)
  obtain ⟨ws, h1, hd⟩ := F2.h1
  refine ⟨.ref t, e, t, _, 0, .ref l1, rfl, rfl, .of (E.fr.gh _ _ F2.gt), rfl, .inl ⟨rfl, _, .of h1⟩, ?_⟩
  refine (ev_tup (ea_cons (ev_op (ev_var rfl) ev_int (oo_ixL (z := .str n) rfl)) (ea_cons (ev_var rfl) ea_nil)) (by show 2 ≤ 1000; decide) : EvD (Cp K G H) _ _ (eK (n, m))) σ G2 H2 E _ fun y d G3 H3 p f iv hy => ?_
  subst p
  have F3 := F2.step f (fun z => z) (fun z => z) (fun _ _ z => z)
  have h3 := f.hh _ _ (fun z => z) h1
  obtain ⟨g, F4⟩ := F3.kind f.gh h3 hy
  refine ⟨l1, ws, y, rfl, rfl, h3, small1000 ?_, ?_⟩
  · rw [dpa_len hd, List.length_map]
    have : b.1.length ≤ sz b := by unfold sz; omega
    omega
  · exact q ls G3 _ ((E.fr.trans0 f).then g) F4 (fun s e => .inl e)

abbrev N_read_deal : List Str := ["words", "found", "letters", "word"]
abbrev P_read_deal : List Str := ["words", "found"]
theorem sc_read_deal : FnScope N_read_deal P_read_deal (defScope (topS 38)) := ⟨rfl, rfl, rfl, by decide +kernel, rfl, by decide +kernel, by decide +kernel⟩
def S_deal (r : Rw) (d : PyData) : Prop := d = eS r.words ∧ ∃ n ps, r = .deal n ps
theorem ok_read_deal (T : Tx w K mg) (F : FnP K "read_deal" 38 [] f fd) (Dread_letter : Kd P w K mg base "read_letter" P_read_letter (pureSp K R_read_letter) 1) : FnOk P w K mg base CX0 2 f fd P_read_deal (rdSp K S_deal) := by
  have nd := sc_read_deal.nd
  refine own_fn F sc_read_deal (fun vs H Q E ⟨_, _, _, _, _, _, _, _, _, e, _⟩ => e ▸ rfl) fun cdv A outer s H E hr => ⟨_, (pss_cons (ps_setLc (i := 2) (own := [("word", 3)]) (g := gName 3) (tt := tYes) rfl nd rfl rfl (sw_true rfl rfl rfl (by decide +kernel)) (pi_list (pe_slice sl_list (pv 0) (po_some pe_int) po_none)) (blkOk_by (N := N_read_deal) (sc := defScope (topS 38)) (by decide +kernel)) (fun _ _ _ _ _ => (pg_name (i := 3) nd rfl (Or.inl rfl))) (fun _ _ _ _ _ => pts_nil) (fun _ _ _ _ _ => (pe_df Dread_letter (hr.mono (by decide)) (by rfl) (pa_cons (pv 3) pa_nil))))
      (pss_cons (ps_if (PW.pt (pw_or (pt_cmpR (op_eqD hr.units) (pv 2) (pe_lst pa_nil) (nomark _)) (pw_or1 (pt_cmpR (op_inD (hu65 hr)) pe_non (pv 2) (by rfl))))) (pss_one (ps_ret pe_bl)) pss_nil)
      (pss_cons (ps_expr (pe_bm PySem.F.plainAttrs_list PySem.F.slot_list_append PySem.F.type_list_append mt_append (pe_ix (r := rIxT K) ix_tup (pv 1) pe_int (fun _ _ => rfl)) (pa_cons (pe_tup (pa_cons (pe_ix (r := rIxL K) ix_list (pv 0) pe_int (fun _ _ => rfl)) (pa_cons (pv 2) (pa_cons (pe_lst pa_nil) pa_nil)))) pa_nil)))
      (pss_one (ps_ret pe_bl))))), fun vs H Q ⟨G, v, d, t, l1, l2, ls, b, r, ev, sg, hv, ⟨ed, n, ps, er⟩, F, cb, zb, ok, rk, q⟩ => ?_⟩
  subst ev; subst ed; subst er
  refine (?_ : Nx (Cp K G H) _ _) _ G H (fm_rd sg hv)
  obtain ⟨p1, p4, pl, pn⟩ := rk.sh
  have sl : ∀ Γ : List Sl, Γ[0]? = some (.dat (eS (Rw.deal n ps).words)) → EvD (Cp K G H) (tSl (rSlL K) (tVar 0) (tPart (tC (.int 2))) tNoPart) Γ (.list (ps.map fun p => .str (ltW p))) := fun Γ h σ G2 H2 E Q q => by
    obtain ⟨v, e, hv⟩ := E.get h
    refine ⟨v, e, 2, rfl, ?_⟩
    obtain ⟨a, xs, rfl, ha, hx⟩ := dp_list hv
    refine ⟨a, xs, rfl, .of (E.fr.gh _ _ ha), fun p hp => ?_⟩
    have hl : xs.length = 2 + ps.length := by
      rw [dpa_len hx, List.length_map]
      show ([sDeal, n] ++ ps.map ltW).length = _
      rw [List.length_append, List.length_map]
      rfl
    have ec : cutV xs (some 2) none = xs.drop 2 := by
      unfold cutV
      have e1 : HT.sIx xs.length 0 (some 2) = 2 := by
        unfold HT.sIx
        simp
        omega
      have e2 : HT.sIx xs.length xs.length none = xs.length := rfl
      rw [e1, e2]
      refine List.take_of_length_le ?_
      rw [List.length_drop]
      exact Nat.le_refl _
    rw [ec]
    have f : Fr M0 G2 H2 (upd G2 p (.lst (xs.drop 2))) (upd H2 p (.lst (xs.drop 2))) := Fr.new E.fr.gh hp
    refine q (.ref p) _ _ _ rfl f trivial (.lst upd_same ?_)
    have h2 := dpa_drop 2 (Dq.monoAll f.gg _ _ hx)
    have e3 : ((Rw.deal n ps).words.map PyData.str).drop 2 = ps.map fun p => .str (ltW p) := by
      show ((ps.map ltW).map PyData.str) = _
      rw [List.map_map]
      rfl
    rw [e3] at h2
    exact h2
  refine nx_seq (nx_asgD (ev_lc (xs := ps) eP (wk_list (sl _ rfl)) (by omega) fun p hp => ⟨_, tg_name (by decide), ev_call (ea_cons (ev_var rfl) ea_nil) ⟨p, rfl, (pl p hp).1, (pl p hp).2, rfl⟩⟩) ?_)
  have sp : Sd 2 (.list (ps.map eP)) := sd_list (sda_map fun p hp => sd_pair (sd_str (ok_let (pl p hp).1)) (sd_str (ok_name (pl p hp).2)) (Nat.le_refl _) (Nat.le_refl _))
  have none_in : ((ps.map eP).any fun z => PyData.eqv z .none) = false := by
    refine List.any_eq_false.mpr fun z hz => ?_
    obtain ⟨p, _, rfl⟩ := List.mem_map.mp hz
    unfold eP
    rw [PyData.eqv]
    simp
  refine nx_seq (nx_ifF (et_orF (et_test (EvD.of (ev_op (ev_var rfl) (ev_lst ea_nil (by decide)) (oo_eqD (sp.shaped (by decide)) ((sd_list (n := 0) sda_nil).shaped (by decide)))) (by rw [eqv_nil (by rw [List.length_map]; omega)])))
    (et_test (EvD.of (ev_op ev_non (ev_var rfl) (oo_inD (d := .none) (by decide) (sp.shaped (by decide)))) (by rw [none_in])))) (nx_next ?_))
  intro σ G2 H2 E
  obtain ⟨o, e, rfl⟩ := E.sl 1 _ rfl
  have F2 := F.step E.fr (fun z => z) (fun z => z) (fun _ _ z => z)
  obtain ⟨ws, h2, hd⟩ := F2.h2
  refine ⟨.ref t, e, t, _, 1, .ref l2, rfl, rfl, .of (E.fr.gh _ _ F2.gt), rfl, .inl ⟨rfl, _, .of h2⟩, ?_⟩
  refine (ev_op (ev_var rfl) ev_int (oo_ixL (z := .str n) (atI_nat (j := 1) rfl)) : EvD (Cp K G H) _ _ (.str n)) σ G2 H2 E _ fun y d G3 H3 p f iv hy => ?_
  subst p
  have ey := dp_str hy
  subst ey
  have E3 := E.step f
  obtain ⟨vl, el, hvl⟩ := E3.get (i := 2) rfl
  refine ⟨vl, el, Nat.zero_le _, fun sp hsp => ⟨by show 3 ≤ sizeLine; decide, fun dt hdt => ?_⟩⟩
  have f4 : Fr M0 G3 H3 G3 (upd H3 sp (.lst [])) := Fr.newU E3.fr.gh hsp
  have f5 : Fr M0 G3 (upd H3 sp (.lst [])) (upd G3 dt (.tup [.str n, vl, .ref sp])) (upd (upd H3 sp (.lst [])) dt (.tup [.str n, vl, .ref sp])) := Fr.new f4.gh hdt
  have f6 := (f.trans0 f4).trans0 f5
  have F5 := F2.step f6 (fun z => z) (fun z => z) (fun _ _ z => z)
  have h5 := f6.hh _ _ (fun z => z) h2
  have nsd : sp ≠ dt := fun q => by
    rw [← q, upd_same] at hdt
    cases hdt
  have live : ∀ a xs, H2 a = some (.lst xs) → sp ≠ a := fun a xs ea q => by
    have := f.hh _ _ (fun z => z) ea
    rw [← q, hsp] at this
    cases this
  obtain ⟨vs1, k1, _⟩ := F2.h1
  obtain ⟨G6, g, F6⟩ := F5.deal f5.gh h5 (n := n) (ps := ps) upd_same (Dq.mono f5.gg _ _ hvl) (by rw [upd_ne nsd]; exact none_of E3.fr.gh hsp) (by rw [upd_ne nsd]; exact upd_same) (live _ _ k1) (live _ _ h2) (fun e => by
    subst e
    obtain ⟨xs, hx⟩ := hd.open
    exact live _ _ hx rfl)
  refine ⟨l2, ws, .ref dt, rfl, rfl, h5, small1000 ?_, ?_⟩
  · have hq := F2.h2
    obtain ⟨us, hu, hdl⟩ := hq
    rw [hu] at h2
    cases h2
    have := hdl.len
    have : b.2.length ≤ sz b := by unfold sz; omega
    omega
  · refine q (some sp) G6 _ (((E.fr.trans0 f6)).then g) F6 (fun s e => .inr ?_)
    cases e
    cases q3 : H sp with
    | none => rfl
    | some u =>
      obtain ⟨x, ex⟩ := E3.fr.live _ _ q3
      rw [hsp] at ex
      cases ex

abbrev N_read_step : List Str := ["words", "found"]
abbrev P_read_step : List Str := ["words", "found"]
theorem sc_read_step : FnScope N_read_step P_read_step (defScope (topS 39)) := ⟨rfl, rfl, rfl, by decide +kernel, rfl, by decide +kernel, by decide +kernel⟩
def S_step (r : Rw) (d : PyData) : Prop := d = eS r.words ∧ ∃ x l, r = .step x l
theorem ok_read_step (T : Tx w K mg) (F : FnP K "read_step" 39 [] f fd) : FnOk P w K mg base CX0 1 f fd P_read_step (rdSp K S_step) := by
  have nd := sc_read_step.nd
  refine own_fn F sc_read_step (fun vs H Q E ⟨_, _, _, _, _, _, _, _, _, e, _⟩ => e ▸ rfl) fun cdv A outer s H E hr => ⟨_, (pss_cons (ps_if (PW.pt (pw_or (pt_cmpR op_ne (pe_callB (r := fun xs H Q => ∃ x n, xs = [x] ∧ LenV K x H n ∧ Q (.int n) H) call_len (by rfl) T.len (by decide +kernel) (pa_cons (pv 0) pa_nil)) pe_int (nomark _)) (pw_or1 (pt_cmpR (op_eqD hr.units) (pe_ix (r := rIxT K) ix_tup (pv 1) pe_int (fun _ _ => rfl)) (pe_lst pa_nil) (nomark _))))) (pss_one (ps_ret pe_bl)) pss_nil)
      (pss_cons (ps_expr (pe_bm PySem.F.plainAttrs_list PySem.F.slot_list_append PySem.F.type_list_append mt_append (pe_ix (r := rIxT K) ix_tup (pe_ix (r := rIxL K) ix_list (pe_ix (r := rIxT K) ix_tup (pv 1) pe_int (fun _ _ => rfl)) (pe_un un_neg pe_int) (fun _ _ => rfl)) pe_int (fun _ _ => rfl)) (pa_cons (pe_tup (pa_cons (pe_ix (r := rIxL K) ix_list (pv 0) pe_int (fun _ _ => rfl)) (pa_cons (pe_ix (r := rIxL K) ix_list (pv 0) pe_int (fun _ _ => rfl)) pa_nil))) pa_nil)))
      (pss_one (ps_ret pe_bl)))), fun vs H Q ⟨G, v, d, t, l1, l2, ls, b, r, ev, sg, hv, ⟨ed, x, l, er⟩, F, cb, zb, ok, rk, q⟩ => ?_⟩
  subst ev; subst ed; subst er
  refine (?_ : Nx (Cp K G H) _ _) _ G H (fm_rd sg hv)
  have e0 : b.2 ≠ [] := ok
  have l0 : 1 ≤ (b.2.map eD).length := by
    rw [List.length_map]
    cases hb : b.2 with
    | nil => exact absurd hb e0
    | cons _ _ => exact Nat.succ_le_succ (Nat.zero_le _)
  refine nx_seq (nx_ifF (et_orF (et_test (ev_lenNe (ev_var rfl) cb_lenL ev_int rfl)) (et_test (EvD.of (ev_eqF F cb rfl) (by rw [eqv_nil l0])))) (nx_next ?_))
  intro σ G2 H2 E
  obtain ⟨o, e, rfl⟩ := E.sl 1 _ rfl
  have F2 := F.step E.fr (fun z => z) (fun z => z) (fun _ _ z => z)
  obtain ⟨us, h2, hd⟩ := F2.h2
  have key : ∃ s us0 dt vl ws nm, ls = some s ∧ us = us0 ++ [V.ref dt] ∧ G2 dt = some (.tup [.str nm, vl, .ref s]) ∧ H2 s = some (.lst ws) ∧ ws.length ≤ sz b := by
    have zs : ∀ d ∈ b.2, d.2.2.length ≤ sz b := fun d hd => by
      have := mem_sum (List.mem_map.mpr ⟨d, hd, rfl⟩ : d.2.2.length ∈ b.2.map fun d : Deal => d.2.2.length)
      unfold sz
      omega
    revert hd zs
    generalize b.2 = bs at e0
    intro hd zs
    cases hd with
    | nil => exact absurd rfl e0
    | @more us ds d dt sp vl ws hh ht hl gs hs hw =>
      refine ⟨sp, us, dt, vl, ws, d.1, rfl, rfl, ht, hs, ?_⟩
      rw [dpa_len hw, List.length_map]
      exact zs d (List.mem_append_right _ (List.mem_singleton.mpr rfl))
  obtain ⟨s, us0, dt, vl, ws, nm, els, eus, ht, hs, hz⟩ := key
  subst els
  refine ⟨.ref t, e, t, _, 1, .ref l2, rfl, rfl, .of (E.fr.gh _ _ F2.gt), rfl, ⟨1, rfl, l2, us, -1, .ref dt, rfl, rfl, .of h2, by rw [eus]; exact atI_last _ _, dt, _, 2, .ref s, rfl, rfl, .of (E.fr.gh _ _ ht), rfl, .inl ⟨rfl, _, .of hs⟩, ?_⟩⟩
  refine (ev_tup (ea_cons (ev_op (ev_var rfl) ev_int (oo_ixL (z := .str x) rfl)) (ea_cons (ev_op (ev_var rfl) ev_int (oo_ixL (z := .str l) rfl)) ea_nil)) (by show 2 ≤ 1000; decide) : EvD (Cp K G H) _ _ (eP (x, l))) σ G2 H2 E _ fun y d G3 H3 p f iv hy => ?_
  subst p
  have F3 := F2.step f (fun z => z) (fun z => z) (fun _ _ z => z)
  have h3 := f.hh _ _ (fun z => z) hs
  obtain ⟨g, F4⟩ := F3.stp f.gh h3 hy
  refine ⟨s, ws, y, rfl, rfl, h3, small1000 (by omega), ?_⟩
  exact q (some s) G3 _ ((E.fr.trans0 f).then g) F4 (fun s e => .inl e)
end
end SN

/-! SN: rows and the whole text. -/
namespace SN
open PySem L2
section
variable {P : Program} {w : World} {K : PySem.W.Frag} {mg : Str → Option Value} {base : Heap} {f : Addr} {fd : FuncData}
abbrev N_read_row : List Str := ["row", "found", "words"]
abbrev P_read_row : List Str := ["row", "found"]
theorem sc_read_row : FnScope N_read_row P_read_row (defScope (topS 40)) := ⟨rfl, rfl, rfl, by decide +kernel, rfl, by decide +kernel, by decide +kernel⟩
def S_row (r : Rw) (d : PyData) : Prop := d = .str r.text
/-- words and what is found are handed on -/
theorem hand_on {G H G2 H2 : Hp} {σ : St} {Γ : List Sl} {t l1 l2 : Addr} {ls : Option Addr} {b : Book} {r : Rw} {S : Rw → PyData → Prop} {E : XK} {Q : VK} (Em : Fm (Cp K G H) σ Γ G2 H2) (h2 : Γ[2]? = some (.dat (eS r.words))) (h1 : Γ[1]? = some (.adr t)) (hS : S r (eS r.words))
    (F : Fnd K G H t l1 l2 ls b) (cb : Cb b) (zb : sz b ≤ 500) (ok : okR b r) (rk : RwOk r) (q : ∀ ls' G2 H2, Gw (Mf l1 l2 ls) G H G2 H2 → Fnd K G2 H2 t l1 l2 ls' (addR b r) → (∀ s, ls' = some s → ls = some s ∨ H s = none) → Q (.bl true) H2) :
    tCall (rdSp K S) [] E (tCons (tVar 2) (tCons (tVar 1) tNil)) σ H2 Q := by
  obtain ⟨v, e2, hv⟩ := Em.get h2
  obtain ⟨o, e1, rfl⟩ := Em.sl 1 _ h1
  refine ⟨v, e2, .ref t, e1, G2, v, _, t, l1, l2, ls, b, r, rfl, Em.fr.gh, hv, hS, F.step Em.fr (fun z => z) (fun z => z) (fun _ _ z => z), cb, zb, ok, rk, fun ls' G3 H3 g F' hn => ?_⟩
  refine q ls' G3 H3 (Em.fr.then g) F' fun s e => ?_
  rcases hn s e with z | z
  · exact .inl z
  · refine .inr ?_
    cases q3 : H s with
    | none => rfl
    | some u =>
      obtain ⟨x, ex⟩ := Em.fr.live _ _ q3
      rw [z] at ex
      cases ex
theorem ok_read_row (T : Tx w K mg) (F : FnP K "read_row" 40 [] f fd) (Dread_kind : Kd P w K mg base "read_kind" P_read_kind (rdSp K S_kind) 1) (Dread_deal : Kd P w K mg base "read_deal" P_read_deal (rdSp K S_deal) 2) (Dread_step : Kd P w K mg base "read_step" P_read_step (rdSp K S_step) 1) :
    FnOk P w K mg base CX0 3 f fd P_read_row (rdSp K S_row) := by
  have nd := sc_read_row.nd
  refine own_fn F sc_read_row (fun vs H Q E ⟨_, _, _, _, _, _, _, _, _, e, _⟩ => e ▸ rfl) fun cdv A outer s H E hr => ⟨_, (pss_cons (ps_set (i := 2) nd rfl (Or.inl rfl) (pe_split (pv 0) pe_str))
      (pss_cons (ps_if (pt_cmpR (r := rIn K false) op_in_seq pe_str (pv 2) (by rfl)) (pss_one (ps_ret pe_bl)) pss_nil)
      (pss_cons (ps_if (pt_cmpR op_eq (pe_ix (r := rIxL K) ix_list (pv 2) pe_int (fun _ _ => rfl)) pe_str (nomark _)) (pss_one (ps_ret (pe_df Dread_kind (hr.mono (by decide)) (by rfl) (pa_cons (pv 2) (pa_cons (pv 1) pa_nil))))) pss_nil)
      (pss_cons (ps_if (pt_cmpR op_eq (pe_ix (r := rIxL K) ix_list (pv 2) pe_int (fun _ _ => rfl)) pe_str (nomark _)) (pss_one (ps_ret (pe_df Dread_deal (hr.mono (by decide)) (by rfl) (pa_cons (pv 2) (pa_cons (pv 1) pa_nil))))) pss_nil)
      (pss_one (ps_ret (pe_and (pe_cmpR (r := rIn K false) op_in_seq (pe_ix (r := rIxL K) ix_list (pv 2) pe_int (fun _ _ => rfl)) (gref T.gDEEDS) (by rfl)) (pe_one (pe_df Dread_step (hr.mono (by decide)) (by rfl) (pa_cons (pv 2) (pa_cons (pv 1) pa_nil))))))))))), fun vs H Q ⟨G, v, d, t, l1, l2, ls, b, r, ev, sg, hv, ed, F, cb, zb, ok, rk, q⟩ => ?_⟩
  have ed : d = .str r.text := ed
  subst ev; subst ed
  refine (?_ : Nx (Cp K G H) _ _) _ G H (fm_rd sg hv)
  have hl := row_len rk
  refine nx_seq (nx_asgD (EvD.of (ev_split (b := sSp) (ev_var rfl) ev_str (by decide +kernel) (by omega)) (by rw [cut_words rk])) ?_)
  have ne : Str.ofString "" ∉ r.words := fun m => (rk.wd _ m).1 (by decide +kernel)
  refine nx_seq (nx_ifF (et_test (EvD.of (ev_op ev_str (ev_var rfl) oo_inS) (by rw [decide_eq_false ne]; rfl))) (nx_next ?_))
  cases r with
  | kind n m =>
    refine nx_seq (nx_ifT (et_test (EvD.of (ev_op (ev_op (ev_var rfl) ev_int (oo_ixL (z := .str sKind) (atI_nat (j := 0) rfl))) ev_str oo_eqS) (congrArg PyData.bool (decide_eq_true rfl)))) ?_)
    exact fun σ G2 H2 Em => hand_on Em rfl rfl ⟨rfl, n, m, rfl⟩ F cb zb ok rk q
  | deal n ps =>
    refine nx_seq (nx_ifF (et_test (EvD.of (ev_op (ev_op (ev_var rfl) ev_int (oo_ixL (z := .str sDeal) (atI_nat (j := 0) rfl))) ev_str oo_eqS) (congrArg PyData.bool (decide_eq_false (by decide +kernel))))) (nx_next ?_))
    refine nx_seq (nx_ifT (et_test (EvD.of (ev_op (ev_op (ev_var rfl) ev_int (oo_ixL (z := .str sDeal) (atI_nat (j := 0) rfl))) ev_str oo_eqS) (congrArg PyData.bool (decide_eq_true rfl)))) ?_)
    exact fun σ G2 H2 Em => hand_on Em rfl rfl ⟨rfl, n, ps, rfl⟩ F cb zb ok rk q
  | step x l =>
    obtain ⟨_, _, _, _, n1, n2⟩ := dds_ok x rk.sh.1
    refine nx_seq (nx_ifF (et_test (EvD.of (ev_op (ev_op (ev_var rfl) ev_int (oo_ixL (z := .str x) (atI_nat (j := 0) rfl))) ev_str oo_eqS) (congrArg PyData.bool (decide_eq_false n1)))) (nx_next ?_))
    refine nx_seq (nx_ifF (et_test (EvD.of (ev_op (ev_op (ev_var rfl) ev_int (oo_ixL (z := .str x) (atI_nat (j := 0) rfl))) ev_str oo_eqS) (congrArg PyData.bool (decide_eq_false n2)))) (nx_next ?_))
    intro σ G2 H2 Em
    refine (ev_inG (neg := false) (x := x) dds (ev_op (ev_var rfl) ev_int (oo_ixL (z := .str x) (atI_nat (j := 0) rfl))) : EvD (Cp K G H) _ _ _) σ G2 H2 Em _ fun y d G3 H3 p f iv hy => ?_
    subst p
    refine ⟨true, (dp_bool hy).trans (congrArg V.bl (decide_eq_true rk.sh.1)), ?_⟩
    refine (if_pos rfl).mpr ?_
    exact hand_on (Em.step f) rfl rfl ⟨rfl, x, l, rfl⟩ F cb zb ok rk q

def fndS (K : PySem.W.Frag) (b : Book) : Spc where
  ok := fun H0 G H v => ∃ t l1 l2 ls, v = .ref t ∧ Fnd K G H t l1 l2 ls b ∧ ∀ a, Mf l1 l2 ls a → H0 a = none
  step := fun M H0 G H G2 H2 v hM f ⟨t, l1, l2, ls, e, F, h0⟩ => by
    have nm : ∀ a, Mf l1 l2 ls a → ¬ M a := fun a m => by
      obtain ⟨xs, hx⟩ := F.lists a m
      exact hM a xs (h0 a m) hx
    exact ⟨t, l1, l2, ls, e, F.step f (nm _ (.inl rfl)) (nm _ (.inr (.inl rfl))) (fun s e => nm _ (.inr (.inr e))), h0⟩
section
variable {C : Cn} {Γ : List Sl} {nx bk ct : St → Hp → Prop} {rt : VK}
theorem nx_fnd {i : Nat} (k : Nx C (Γ.set i (.spc (fndS C.K ([], [])))) nx) : Nx C Γ (tAsg (tTup (tCons (tLst tNil) (tCons (tLst tNil) tNil))) (gName i) ⟨nx, rt, bk, ct⟩) := fun σ G H E => by
  refine ⟨Nat.zero_le _, fun l1 h1 => ⟨Nat.zero_le _, fun l2 h2 => ⟨by show 2 ≤ sizeLine; decide, fun t ht => ?_⟩⟩⟩
  have f1 : Fr M0 G H G (upd H l1 (.lst [])) := Fr.newU E.fr.gh h1
  have f2 : Fr M0 G (upd H l1 (.lst [])) G (upd (upd H l1 (.lst [])) l2 (.lst [])) := Fr.newU f1.gh h2
  have f3 : Fr M0 G (upd (upd H l1 (.lst [])) l2 (.lst [])) (upd G t (.tup [.ref l1, .ref l2])) (upd (upd (upd H l1 (.lst [])) l2 (.lst [])) t (.tup [.ref l1, .ref l2])) := Fr.new f2.gh ht
  have n12 : l1 ≠ l2 := fun q => by
    rw [← q, upd_same] at h2
    cases h2
  have n2t : l2 ≠ t := fun q => by
    rw [← q, upd_same] at ht
    cases ht
  have n1t : l1 ≠ t := fun q => by
    rw [← q, upd_ne n12, upd_same] at ht
    cases ht
  have h2' : H l2 = none := by
    rw [upd_ne n12.symm] at h2
    exact h2
  have E3 := ((E.step f1).step f2).step f3
  refine k _ _ _ (E3.set ⟨.ref t, rfl, t, l1, l2, none, rfl, ⟨upd_same, ?_, ?_, n12, ⟨[], ?_, .nil⟩, ⟨[], ?_, .nil⟩, fun s e => nomatch e⟩, fun a m => ?_⟩)
  · rw [upd_ne n1t]; exact none_of E.fr.gh h1
  · rw [upd_ne n2t]; exact none_of E.fr.gh h2'
  · rw [upd_ne n1t, upd_ne n12]; exact upd_same
  · rw [upd_ne n2t]; exact upd_same
  · rcases m with rfl | rfl | e
    · exact E.h0 h1
    · exact E.h0 h2'
    · cases e
theorem nx_row {i j : Nat} {b : Book} {r : Rw} {E : XK} (hi : Γ[i]? = some (.spc (fndS C.K b))) (hj : Γ[j]? = some (.dat (.str r.text))) (hu : lone Γ i = true) (cb : Cb b) (zb : sz b ≤ 500) (ok : okR b r) (rk : RwOk r) (k : Nx C (Γ.set i (.spc (fndS C.K (addR b r)))) nx) :
    Nx C Γ (tIfS (tNot (tB (tCall (rdSp C.K S_row) [] E (tCons (tVar j) (tCons (tVar i) tNil))))) tNever tNext ⟨nx, rt, bk, ct⟩) := fun σ G H Em => by
  obtain ⟨v, e2, hv⟩ := Em.get hj
  obtain ⟨o, e1, v1, rfl, t, l1, l2, ls, rfl, F, h0⟩ := Em.sl i _ hi
  obtain ⟨hlt, _⟩ := List.getElem?_eq_some_iff.mp hi
  refine ⟨v, e2, .ref t, e1, G, v, _, t, l1, l2, ls, b, r, rfl, Em.fr.gh, hv, rfl, F, cb, zb, ok, rk, fun ls' G3 H3 g F' hn => ⟨true, rfl, ?_⟩⟩
  refine (if_neg Bool.false_ne_true).mpr ?_
  refine k σ G3 H3 (Em.grow g (fun a m => ⟨h0 a m, F.lists a m⟩) hlt hu e1 ⟨.ref t, rfl, t, l1, l2, ls', rfl, F', fun a m => ?_⟩)
  rcases m with e | e | e
  · exact h0 a (.inl e)
  · exact h0 a (.inr (.inl e))
  · rcases hn a e with z | z
    · exact h0 a (.inr (.inr z))
    · exact Em.h0 z
theorem nx_fndDone {i : Nat} {b : Book} {kk : St → Hp → Prop} (hi : Γ[i]? = some (.spc (fndS C.K b))) (hu : lone Γ i = true) (k : Nx C (Γ.set i (.dat (eB b))) kk) : Nx C Γ kk := fun σ G H E => by
  obtain ⟨o, e1, v1, rfl, t, l1, l2, ls, rfl, F, h0⟩ := E.sl i _ hi
  obtain ⟨hlt, _⟩ := List.getElem?_eq_some_iff.mp hi
  obtain ⟨G2, g, hd⟩ := F.done E.fr.gh
  exact k σ G2 H (E.grow g (fun a m => ⟨h0 a m, F.lists a m⟩) hlt hu e1 ⟨.ref t, rfl, hd⟩)
end
theorem sz_run : ∀ (rs : List Rw) (b : Book), sz (rs.foldl addR b) ≤ sz b + rs.length
  | [], b => Nat.le_refl _
  | r :: rs, b => by
    have h1 := sz_run rs (addR b r)
    have h2 := sz_add b r
    show sz (rs.foldl addR (addR b r)) ≤ _
    rw [List.length_cons]
    omega
theorem cb_run : ∀ (rs : List Rw) (b : Book), Cb b → (∀ r ∈ rs, RwOk r) → Cb (rs.foldl addR b)
  | [], b, h, _ => h
  | r :: rs, b, h, ok => cb_run rs (addR b r) (cb_add h (ok r (List.mem_cons_self ..))) fun x hx => ok x (List.mem_cons_of_mem _ hx)

theorem cb_none : Cb ([], []) := ⟨fun k h => (by cases h), fun d h => (by cases h)⟩
abbrev N_read : List Str := ["text", "found", "number", "row"]
abbrev P_read : List Str := ["text"]
theorem sc_read : FnScope N_read P_read (defScope (topS 41)) := ⟨rfl, rfl, rfl, by decide +kernel, rfl, by decide +kernel, by decide +kernel⟩
def R_read (ds : List PyData) (z : PyData) : Prop := ∃ b : Book, ds = [.str (textB b)] ∧ WB b ∧ z = eB b
theorem ok_read (T : Tx w K mg) (F : FnP K "read" 41 [] f fd) (Dread_row : Kd P w K mg base "read_row" P_read_row (rdSp K S_row) 3) (Dlook_at_book : Kd P w K mg base "look_at_book" P_look_at_book (pureSp K R_look_at_book) 4) :
    FnOk P w K mg base CX0 5 f fd P_read (pureSp K R_read) := by
  have nd := sc_read.nd
  refine pure_fn F sc_read (fun ds z ⟨_, e, _⟩ => e ▸ rfl) fun cdv A outer s H E hr => ⟨_, (pss_cons (ps_if (pt_not (pt_val (pe_callB call_isi (by rfl) T.isinstance (by decide +kernel) (pa_cons (pv 0) (pa_cons (pe_bltn (v := .ty "str") (by rfl) T.str (by decide +kernel) rfl) pa_nil))))) (pss_one ps_never) pss_nil)
      (pss_cons (ps_set (i := 1) nd rfl (Or.inl rfl) (pe_tup (pa_cons (pe_lst pa_nil) (pa_cons (pe_lst pa_nil) pa_nil))))
      (pss_cons (ps_for PassesOwn.never rfl (pi_enum (by rfl) T.enumerate (pa_cons (pe_split (pv 0) pe_str) pa_nil)) (pg_tup rfl (pgs_cons (pg_name (i := 2) nd rfl (Or.inl rfl)) (pgs_cons (pg_name (i := 3) nd rfl (Or.inl rfl)) pgs_nil))) (pss_one (ps_if (pt_not (pt_val (pe_df Dread_row (hr.mono (by decide)) (by rfl) (pa_cons (pv 3) (pa_cons (pv 1) pa_nil))))) (pss_one ps_never) pss_nil)))
      (pss_cons (ps_expr (pe_df Dlook_at_book (hr.mono (by decide)) (by rfl) (pa_cons (pv 1) pa_nil)))
      (pss_one (ps_ret (pv 1))))))), fun G H ds z Q hR q => ?_⟩
  obtain ⟨b, rfl, wf, rfl⟩ := hR
  have tl := text_len wf
  have ok := rows_ok wf
  have rl := (rows_len wf).2
  obtain ⟨rb, rr⟩ := run_book b
  refine nx_seq (nx_ifF (et_notT (et_B (ev_isi (ev_var rfl) ki_ss))) (nx_next ?_))
  refine nx_seq (nx_fnd ?_)
  refine nx_seq (nx_forD (fun i => [Sl.dat (.str (textB b)), .spc (fndS K (((rowsB b).take i).foldl addR ([], []))), .un, .un]) (wk_enum (ea_cons (EvD.of (ev_split (b := sNl) (ev_var rfl) ev_str (by decide +kernel) (by omega)) (by rw [cut_rows wf]; unfold eS; rw [List.map_map])) ea_nil)) (.same (.same (.same (.same .nil)))) (fun i d G1 hd => ?_) ?_)
  · obtain ⟨r, hi, rfl⟩ := num_map hd
    have hm := List.mem_of_getElem? hi
    refine ⟨_, [2, 3], tg_tup2 (by decide) (by decide), ?_⟩
    refine nx_row (i := 1) (j := 3) (r := r) rfl rfl rfl (cb_run _ _ cb_none fun x hx => ok x (List.mem_of_mem_take hx)) ?_ (runs_at i rr hi) (ok r hm) ?_
    · have h1 := sz_run ((rowsB b).take i) ([], [])
      have h2 : sz ([], []) = 0 := rfl
      rw [List.length_take] at h1
      omega
    · refine nx_kx rfl ?_
      rw [take_more hi, List.foldl_append]
      exact .same (.same (.un (.un .nil)))
  · rw [numbered_len, List.length_map, List.take_length, rb]
    refine nx_fndDone (i := 1) rfl rfl ?_
    refine nx_seq (nx_drop (ev_call (z := .none) (ea_cons (ev_var rfl) ea_nil) ⟨b, rfl, wf, rfl⟩) ?_)
    exact nx_out (ev_var rfl) q
end
end SN

/-! SN: the pool of draws: one list that may change. -/
namespace SN
open PySem L2
def Pool (p : Addr) (H : Hp) : Prop := ∃ a b : Int, H p = some (.lst [.int a, .int b]) ∧ 0 ≤ a ∧ 0 ≤ b ∧ b < 2147483647
abbrev Pc (K : PySem.W.Frag) (G H : Hp) (p : Addr) (hp : Pool p H) : Cn := ⟨K, fun a => a = p, Pool p, G, H, fun a m => by
    obtain ⟨x, y, h, _⟩ := hp
    exact ⟨_, by rw [m]; exact h⟩, fun H1 H2 h ⟨x, y, e, r⟩ => ⟨x, y, h p _ rfl e, r⟩⟩
/-- the run may change the pool at p, and nothing else -/
structure Pl (C : Cn) (p : Addr) : Prop where
  m : C.M = fun a => a = p
  i : C.I = Pool p
/-- called with the pool: from what it may be called, and what may come out -/
def poolSp (K : PySem.W.Frag) (Pre : List PyData → Prop) (R : List PyData → PyData → Prop) : Sp := fun vs H Q _ => ∃ (G : Hp) (p : Addr) (us : List V) (ds : List PyData), vs = .ref p :: us ∧ Same G H ∧ G p = none ∧ DqAll K G us ds ∧ Pool p H ∧ Pre ds ∧
  ∀ v z G2 H2, R ds z → Fr (fun a => a = p) G H G2 H2 → Pool p H2 → Dq K G2 v z → Q v H2
section
variable {C : Cn} {Γ : List Sl} {tr : TA} {E : XK} {i : Nat} {p : Addr} {Pre : List PyData → Prop} {R : List PyData → PyData → Prop}
theorem ev_poolP {PA : List PyData → Prop} (hC : Pl C p) (hi : Γ[i]? = some (.pol p)) (h : EvA C tr Γ PA) (hp : ∀ ds, PA ds → Pre ds) : Ev C (tCall (poolSp C.K Pre R) [] E (tCons (tVar i) tr)) Γ (fun z => ∃ ds, PA ds ∧ R ds z) := fun σ G H Em Q q => by
  obtain ⟨o, e, rfl, _⟩ := Em.sl i _ hi
  refine ⟨.ref p, e, ?_⟩
  refine h σ G H Em _ fun vs ds G2 H2 pa f iv hv => ?_
  obtain ⟨o', e', rfl, m, gp, u, hu⟩ := (Em.stepM f iv).sl i _ hi
  have iv' : Pool p H2 := hC.i ▸ iv
  refine ⟨G2, p, vs, ds, by rw [List.append_nil], f.gh, gp, hv, iv', hp ds pa, fun v z G3 H3 r f3 iv3 hz => ?_⟩
  exact q v z G3 H3 ⟨ds, pa, r⟩ (f.transM (hC.m ▸ f3)) (hC.i ▸ iv3) hz
theorem ev_pool {ds : List PyData} (hC : Pl C p) (hi : Γ[i]? = some (.pol p)) (h : EvAD C tr Γ ds) (hp : Pre ds) : Ev C (tCall (poolSp C.K Pre R) [] E (tCons (tVar i) tr)) Γ (R ds) := (ev_poolP hC hi h fun z e => e ▸ hp).imp fun z ⟨ds', e, r⟩ => e ▸ r
end
theorem fm_pool {K : PySem.W.Frag} {G H : Hp} {p : Addr} {hp : Pool p H} {us : List V} {ds : List PyData} {N : List Str} (s : Same G H) (g : G p = none) (h : DqAll K G us ds) : Fm (Pc K G H p hp) (start N (.ref p :: us)) (.pol p :: (ds.map Sl.dat ++ List.replicate (N.length - (ds.length + 1)) Sl.un)) G H where
  fr := Fr.refl s
  inv := hp
  len := by
    unfold L2.start
    have := dpa_len h
    simp only [List.length_append, List.length_map, List.length_cons, List.length_replicate]
    omega
  sl := fun i t e => by
    unfold L2.start
    cases i with
    | zero =>
      cases e
      obtain ⟨x, y, hh, _⟩ := hp
      exact ⟨_, rfl, rfl, rfl, g, _, hh⟩
    | succ j =>
      have := sl_of (C := Pc K G H p hp) (G := G) (H := H) h (N.length - (ds.length + 1)) j t e
      rw [← dpa_len h] at this
      exact this
/-- a def with the pool keeps its word -/
theorem pool_fn {P : Program} {w : World} {K : PySem.W.Frag} {mg : Str → Option Value} {base : Heap} {f : Addr} {fd : FuncData} {x : Str} {i k : Nat} {dvs : List V} {N ps : List Str} {Pre : List PyData → Prop} {R : List PyData → PyData → Prop} (F : FnP K x i dvs f fd) (S : FnScope N ps (defScope (topS i)))
    (hl : ∀ ds, Pre ds → ds.length + 1 = ps.length)
    (hb : ∀ (cdv : Value) (A : Around) (outer : List PySem.Env) (s : Shared) (H : Hp) (E : XK), Room k (A.deeper (PyProof.Rows.envOfC x (defScope (topS i)) s.heap.objs.size f cdv)) → ∃ t, PSs (cxOf CX0 P w K mg base N x (defScope (topS i)) f cdv A outer s H E).nox (defBody (topS i)) t ∧
      ∀ (G H : Hp) (p : Addr) (hp : Pool p H) (ds : List PyData) (Q : VK), Pre ds → (∀ v z G2 H2, R ds z → Fr (fun a => a = p) G H G2 H2 → Pool p H2 → Dq K G2 v z → Q v H2) → Nx (Pc K G H p hp) (.pol p :: (ds.map Sl.dat ++ List.replicate (N.length - (ds.length + 1)) Sl.un)) (t ⟨fun _ H' => Q .non H', Q, fun _ _ => False, fun _ _ => False⟩)) :
    FnOk P w K mg base CX0 (k + 1) f fd ps (poolSp K Pre R) := by
  refine own_fn F S (fun vs H Q E ⟨G, p, us, ds, e, _, _, h, _, pre, _⟩ => ?_) fun cdv A outer s H0 E hr => ?_
  · rw [e, List.length_cons, dpa_len h, hl ds pre]
  · obtain ⟨t, h1, h2⟩ := hb cdv A outer s H0 E hr
    refine ⟨t, h1, fun vs H Q ⟨G, p, us, ds, e, sg, g, h, hp, pre, q⟩ => ?_⟩
    subst e
    exact h2 G H p hp ds Q pre q _ G H (fm_pool sg g h)
section
variable {K : PySem.W.Frag} {G H : Hp} {p : Addr} {hp : Pool p H} {Γ : List Sl} {te : TE} {Q : VK} {nx bk ct : St → Hp → Prop} {P R : PyData → Prop}
theorem nx_outP (h : Ev (Pc K G H p hp) te Γ P) (k : ∀ z, P z → R z) (q : ∀ v z G2 H2, R z → Fr (fun a => a = p) G H G2 H2 → Pool p H2 → Dq K G2 v z → Q v H2) : Nx (Pc K G H p hp) Γ (tRet te ⟨nx, Q, bk, ct⟩) :=
  nx_ret h fun σ v d G2 H2 pd E hv => q v d G2 H2 (k d pd) E.fr E.inv hv
end
/-- one draw -/
def Pre_draw (ds : List PyData) : Prop := ∃ n : Nat, ds = [.int n] ∧ 1 ≤ n ∧ n ≤ 1000
def R_draw (ds : List PyData) (z : PyData) : Prop := ∃ n m : Nat, ds = [.int n] ∧ z = .int m ∧ m < n
abbrev drawSp (K : PySem.W.Frag) : Sp := poolSp K Pre_draw R_draw
theorem ev_draw {C : Cn} {Γ : List Sl} {te : TE} {E : XK} {i n : Nat} {p : Addr} (hC : Pl C p) (hi : Γ[i]? = some (.pol p)) (h : EvD C te Γ (.int n)) (h1 : 1 ≤ n) (h2 : n ≤ 1000) : Ev C (tCall (drawSp C.K) [] E (tCons (tVar i) (tCons te tNil))) Γ (fun z => ∃ m : Nat, z = .int m ∧ m < n) :=
  (ev_pool hC hi (ea_cons h ea_nil) ⟨n, rfl, h1, h2⟩).imp fun z ⟨n', m, e, ez, lt⟩ => ⟨m, ez, by
    have e1 : (n : Int) = n' := PyData.int.inj (List.head_eq_of_cons_eq e)
    omega⟩
section
variable {X : Cx} {o e : Expr} {es : List Expr} {to te : TE} {t : TA} {name : Str} {apos cpos pos : Pos} {T id : String} {r : V → List V → Hp → VK → Prop} {K : PySem.W.Frag}
theorem pe_bmK (hK : X.K = K) (pa : PlainAttrs T) (slot : Slot T name id) (hty : typeOf (.builtin id) = pure (.type "method_descriptor")) (hm : MtR X id r) (ho : PE X o to) (ha : PA X (e :: es) t)
    (hbase : attributeBase o name X.env (eval o X.env) = eval o X.env := by rfl)
    (hfew : ((backTo cpos (starEach (e :: es) X.env)).all (fun x => !x.1) && (backToKw cpos (keywordEach [] X.env)).all (fun x => x.1.isSome)
      && decide ((e :: es).length + ([] : List Keyword).length + (if ([] : List Keyword).isEmpty then 0 else 1) < 30)) = true := by rfl)
    (hline : (apos.endLine == cpos.line) = true := by rfl) (hs : starEach (e :: es) X.env = (false, eval e X.env) :: starEach es X.env := by rfl) (hplain : (backTo cpos (starEach es X.env)).any (·.1) = false := by rfl) :
    PE X (.Call (.Attribute o name apos) (e :: es) [] cpos) (tBM K T r to t) := by
  subst hK
  exact pe_bm pa slot hty hm ho ha hbase hfew hline hs hplain
abbrev rJn (K : PySem.W.Frag) : V → List V → Hp → VK → Prop := fun x xs H Q => ∃ a p, ∃ ys : List Str, x = .str a ∧ xs = [.ref p] ∧ (SqL K H p (ys.map V.str) ∨ SqT K H p (ys.map V.str)) ∧ (ys.map (·.length)).sum + ys.length * a.length ≤ 16777216 ∧ Q (.str (Txt.join a ys)) H
theorem pe_joinK (hK : X.K = K) (ho : PE X o to) (he : PE X e te) (hs : starEach [e] X.env = [(false, eval e X.env)] := by rfl) (hbase : attributeBase o "join" X.env (eval o X.env) = eval o X.env := by rfl) (hline : (apos.endLine == pos.line) = true := by rfl) :
    PE X (.Call (.Attribute o "join" apos) [e] [] pos) (tM1 (rJn K) to te) := by
  subst hK
  exact pe_join ho he hs hbase hline
end
end SN

/-! SN: draws and names. -/
namespace SN
open PySem L2
theorem sub_len : ∀ {l m : List Str}, l.Nodup → (∀ x ∈ l, x ∈ m) → l.length ≤ m.length
  | [], _, _, _ => Nat.zero_le _
  | x :: l, m, nd, h => by
    obtain ⟨n1, n2⟩ := List.nodup_cons.mp nd
    have hx := h x (List.mem_cons_self ..)
    have ih := sub_len (l := l) (m := m.erase x) n2 fun y hy => by
      have ne : y ≠ x := fun e => n1 (e ▸ hy)
      exact (List.mem_erase_of_ne ne).mpr (h y (List.mem_cons_of_mem _ hy))
    rw [List.length_erase_of_mem hx] at ih
    have := List.length_pos_of_mem hx
    rw [List.length_cons]
    omega
theorem name_join {ys : List Str} (h : ∀ y ∈ ys, IsLet y) (h1 : 1 ≤ ys.length) (h8 : ys.length ≤ 8) : IsName (Txt.join Str.empty ys) := by
  rw [TL.join_eq]
  have e := sgn_cat h
  have hl : (Str.join Str.empty ys).length = ys.length := by rw [← sgn_len, e]
  refine ⟨by omega, by omega, fun c hc => ?_⟩
  have hm : (⟨#[c]⟩ : Str) ∈ ys := by
    rw [← e]
    exact List.mem_map.mpr ⟨c, hc, rfl⟩
  obtain ⟨d, ed, hd⟩ := h _ hm
  have : c = d := by
    have := congrArg (fun s : Str => s.cps.toList) ed
    simpa using this
  rw [this]
  exact hd
theorem cut_tl (x : Str) (h : 1 ≤ x.length) : TL.tl (cutS x none (some (-1))) = (TL.tl x).take (x.length - 1) := by
  unfold cutS
  show (((TL.tl x).drop 0).take (HT.sIx x.length x.length (some (-1)) - 0)) = _
  have e : HT.sIx x.length x.length (some (-1)) = x.length - 1 := by
    show (if (-1 : Int) < 0 then ((-1 : Int) + (x.length : Int)).toNat else min (-1 : Int).toNat x.length) = x.length - 1
    rw [if_pos (by decide)]
    omega
  rw [e]
  rfl
theorem some_name {x l : Str} (h : IsName x) (hl : IsLet l) : IsName (cutS x none (some (-1)) ++ l) := by
  have e := cut_tl x h.1
  have hx : (TL.tl x).length = x.length := by rw [← TL.len_tl]
  obtain ⟨c, rfl, hc⟩ := hl
  have et : TL.tl (cutS x none (some (-1)) ++ ⟨#[c]⟩) = (TL.tl x).take (x.length - 1) ++ [c] := by
    rw [TL.tl_append, e]
  have hlen : (cutS x none (some (-1)) ++ ⟨#[c]⟩ : Str).length = x.length := by
    rw [TL.len_tl, et, List.length_append, List.length_take, hx]
    have := h.1
    show min _ _ + 1 = _
    omega
  refine ⟨by rw [hlen]; exact h.1, by rw [hlen]; exact h.2.1, fun d hd => ?_⟩
  have hd : d ∈ TL.tl (cutS x none (some (-1)) ++ ⟨#[c]⟩ : Str) := hd
  rw [et] at hd
  rcases List.mem_append.mp hd with q | q
  · exact h.2.2 d (List.mem_of_mem_take q)
  · rw [List.mem_singleton.mp q]
    exact hc
/-- of more names than are found one is new -/
theorem one_new (x : Str) {ns : List Str} (h : ns.length ≤ 25) : ∃ y ∈ (sgn sAlpha).map (cutS x none (some (-1)) ++ ·), y ∉ ns := by
  refine Classical.byContradiction fun z => ?_
  have z2 : ∀ y ∈ (sgn sAlpha).map (cutS x none (some (-1)) ++ ·), y ∈ ns := fun y hy => Classical.byContradiction fun q => z ⟨y, hy, q⟩
  have nd : ((sgn sAlpha).map (cutS x none (some (-1)) ++ ·)).Nodup := nd_map (fun a b e => by
    have h1 := congrArg TL.tl e
    rw [TL.tl_append, TL.tl_append] at h1
    exact TL.ext_tl (List.append_cancel_left h1)) (sgn_nd (by show alpha.Nodup; exact alpha_nd))
  have h2 := sub_len nd z2
  rw [List.length_map, sgn_len] at h2
  have : sAlpha.length = 26 := by decide +kernel
  omega
theorem sgn_alpha : ∀ s ∈ sgn sAlpha, IsLet s := sgn_let fun c hc => hc
theorem f2_strs {α : Type} {Pc : Str → Prop} : ∀ {xs : List α} {zs : List PyData}, F2 (fun _ z => ∃ c, z = .str c ∧ Pc c) xs zs → ∃ ys : List Str, zs = ys.map .str ∧ ys.length = xs.length ∧ ∀ y ∈ ys, Pc y
  | _, _, .nil => ⟨[], rfl, rfl, fun y h => (by cases h)⟩
  | _, _, .cons ⟨c, e, pc⟩ t => by
    obtain ⟨ys, rfl, hl, h⟩ := f2_strs t
    refine ⟨c :: ys, by rw [e]; rfl, congrArg (· + 1) hl, fun y hy => ?_⟩
    rcases List.mem_cons.mp hy with rfl | hy
    · exact pc
    · exact h y hy
section
variable {C : Cn} {Γ : List Sl} {te tb : TE}
theorem ev_joinP {a : Str} {Pj : List Str → Prop} (h : EvD C te Γ (.str a)) (h2 : Ev C tb Γ fun z => ∃ ys, z = eS ys ∧ Pj ys) (hl : ∀ ys, Pj ys → (ys.map (·.length)).sum + ys.length * a.length ≤ 100000) : Ev C (tM1 (rJn C.K) te tb) Γ fun z => ∃ ys, z = .str (Txt.join a ys) ∧ Pj ys := fun σ G H E Q q => by
  refine h σ G H E _ fun v d G2 H2 p f i hv => ?_
  subst p
  have ev := dp_str hv
  subst ev
  refine ⟨⟨_, rfl⟩, ?_⟩
  refine h2 σ G2 H2 (E.stepM f i) _ fun v d G3 H3 p f2 i2 hv2 => ?_
  obtain ⟨ys, rfl, pj⟩ := p
  obtain ⟨l, vs, rfl, hl2, hk⟩ := dp_list hv2
  rw [dpa_strs hk] at hl2
  have hb := hl ys pj
  exact ⟨a, l, ys, rfl, rfl, .inl (.of (f2.gh _ _ hl2)), by omega, q _ _ G3 H3 ⟨ys, rfl, pj⟩ (f.transM f2) i2 (.str _)⟩
/-- x[:-1] -/
theorem ev_cut {x : Str} (h : EvD C te Γ (.str x)) (hl : x.length ≤ 1000) : EvD C (tSl rSlS te tNoPart (tPart (tUn (rU fun i => .int (-i)) (tC (.int 1))))) Γ (.str (cutS x none (some (-1)))) := fun σ G H E Q q => by
  refine h σ G H E _ fun v d G2 H2 p f i hv => ?_
  subst p
  have ev := dp_str hv
  subst ev
  exact ⟨1, rfl, -1, rfl, x, rfl, Nat.le_of_lt (small1000 hl), q _ _ G2 H2 rfl f i (.str _)⟩
end
section
variable {P : Program} {w : World} {K : PySem.W.Frag} {mg : Str → Option Value} {base : Heap} {f : Addr} {fd : FuncData}
abbrev N__law_draw : List Str := ["_law_pool_here", "_law_many", "_law_found"]
abbrev P__law_draw : List Str := ["_law_pool_here", "_law_many"]
theorem sc__law_draw : FnScope N__law_draw P__law_draw (defScope (topS 44)) := ⟨rfl, rfl, rfl, by decide +kernel, rfl, by decide +kernel, by decide +kernel⟩
theorem ok__law_draw (T : Tx w K mg) (F : FnP K "_law_draw" 44 [] f fd) : FnOk P w K mg base CX0 1 f fd P__law_draw (drawSp K) := by
  have nd := sc__law_draw.nd
  refine pool_fn F sc__law_draw (fun ds ⟨_, e, _⟩ => e ▸ rfl) fun cdv A outer s H E hr => ⟨_, (pss_cons (ps_if (pt_cmpR op_gt (pe_ix (r := rIxL K) ix_list (pv 0) pe_int (fun _ _ => rfl)) pe_int (nomark _)) (pss_cons (ps_set (i := 2) nd rfl (Or.inl rfl) (pe_op op_mod (pe_ix (r := rIxL K) ix_list (pv 0) pe_int (fun _ _ => rfl)) (pv 1)))
        (pss_cons (ps_asg (pe_op op_fdiv (pe_ix (r := rIxL K) ix_list (pv 0) pe_int (fun _ _ => rfl)) (pv 1)) (pg_sub (pv 0) pe_int set_list))
        (pss_one (ps_ret (pv 2))))) pss_nil)
      (pss_cons (ps_asg (pe_op op_mod (pe_op op_add (pe_op op_mul (pe_ix (r := rIxL K) ix_list (pv 0) pe_int (fun _ _ => rfl)) pe_int) pe_int) pe_int) (pg_sub (pv 0) pe_int set_list))
      (pss_one (ps_ret (pe_op op_mod (pe_op op_fdiv (pe_op op_mod (pe_op op_mul (pe_ix (r := rIxL K) ix_list (pv 0) pe_int (fun _ _ => rfl)) (pe_ix (r := rIxL K) ix_list (pv 0) pe_int (fun _ _ => rfl))) pe_int) pe_int) (pv 1)))))), fun G H p hp ds Q hR q => ?_⟩
  obtain ⟨n, rfl, n1, n2⟩ := hR
  intro σ G2 H2 E
  obtain ⟨a, b, hH, a0, b0, b1⟩ := E.inv
  obtain ⟨o, e0, rfl, _, gp, _⟩ := E.sl 0 _ rfl
  obtain ⟨v, e1, hv⟩ := E.get (i := 1) rfl
  have ev := dp_int hv
  subst ev
  have np : (0 : Int) < n := by omega
  have fin : ∀ (z : Int) (o : HO), 0 ≤ z → z < n → (∃ a b : Int, o = .lst [.int a, .int b] ∧ 0 ≤ a ∧ 0 ≤ b ∧ b < 2147483647) → Q (.int z) (upd H2 p o) := fun z o z0 z1 ⟨a', b', eo, r⟩ => by
    refine q (.int z) (.int z) G2 _ ⟨n, z.toNat, rfl, congrArg PyData.int (Int.toNat_of_nonneg z0).symm, by omega⟩ (E.fr.put hH gp (.inl rfl)) ⟨a', b', by rw [upd_same, eo], r⟩ (.int z)
  refine ⟨.ref p, e0, p, _, 0, .int a, rfl, rfl, .of hH, rfl, a, 0, rfl, rfl, decide (0 < a), rfl, ?_⟩
  by_cases ha : 0 < a
  · refine (if_pos (decide_eq_true ha)).mpr ?_
    have l2 : 2 < σ.length := by rw [E.len]; show 2 < 3; decide
    have f0 : (σ.set 2 (some (.int (a % n))))[0]? = some (some (.ref p)) := by rw [List.getElem?_set_ne (by decide)]; exact e0
    have f1 : (σ.set 2 (some (.int (a % n))))[1]? = some (some (.int (n : Int))) := by rw [List.getElem?_set_ne (by decide)]; exact e1
    have f2 : (σ.set 2 (some (.int (a % n))))[2]? = some (some (.int (a % n))) := List.getElem?_set_self l2
    refine ⟨.ref p, e0, p, _, 0, .int a, rfl, rfl, .of hH, rfl, .int n, e1, a, n, rfl, rfl, np, ?_⟩
    refine ⟨.ref p, f0, p, _, 0, .int a, rfl, rfl, .of hH, rfl, .int n, f1, a, n, rfl, rfl, ⟨np, by omega⟩, .ref p, f0, p, _, 0, 0, rfl, rfl, hH, rfl, ?_⟩
    exact ⟨.int (a % n), f2, fin _ _ (Int.emod_nonneg _ (by omega)) (Int.emod_lt_of_pos _ np) ⟨a / n, b, rfl, Int.ediv_nonneg a0 (by omega), b0, b1⟩⟩
  · refine (if_neg (by simpa using ha)).mpr ?_
    have m0 := Int.emod_nonneg (b * 69621 + 7) (by decide : (2147483647 : Int) ≠ 0)
    have m1 := Int.emod_lt_of_pos (b * 69621 + 7) (by decide : (0 : Int) < 2147483647)
    refine ⟨.ref p, e0, p, _, 1, .int b, rfl, rfl, .of hH, rfl, b, 69621, rfl, rfl, .inr ⟨by decide, by decide⟩, _, 7, rfl, rfl, _, 2147483647, rfl, rfl, (by decide : (0 : Int) < 2147483647), .ref p, e0, p, _, 1, 1, rfl, rfl, hH, rfl, ?_⟩
    refine ⟨.ref p, e0, p, _, 1, _, rfl, rfl, .of upd_same, rfl, .ref p, e0, p, _, 1, _, rfl, rfl, .of upd_same, rfl, (b * 69621 + 7) % 2147483647, (b * 69621 + 7) % 2147483647, rfl, rfl, .inl ⟨by omega, by omega⟩, _, 2147483629, rfl, rfl, (by decide : (0 : Int) < 2147483629), _, 32, rfl, rfl, ⟨by decide, by decide⟩, .int n, e1, _, n, rfl, rfl, np, ?_⟩
    exact fin _ _ (Int.emod_nonneg _ (by omega)) (Int.emod_lt_of_pos _ np) ⟨a, (b * 69621 + 7) % 2147483647, rfl, a0, m0, m1⟩

abbrev N__law_names : List Str := ["_law_pool_here", "_law_many", "_law_letters", "_law_found", "_law_k", "_law_size", "_law_name", "_law_some", "_law_at", "_law_letter", "_law_one"]
abbrev P__law_names : List Str := ["_law_pool_here", "_law_many"]
theorem sc__law_names : FnScope N__law_names P__law_names (defScope (topS 45)) := ⟨rfl, rfl, rfl, by decide +kernel, rfl, by decide +kernel, by decide +kernel⟩
def Pre_names (ds : List PyData) : Prop := ∃ n : Nat, ds = [.int n] ∧ n ≤ 20
def NamesOk (ns : List Str) : Prop := (∀ x ∈ ns, IsName x) ∧ ns.Nodup
def R_names (ds : List PyData) (z : PyData) : Prop := ∃ ns : List Str, ds = [.int (ns.length : Nat)] ∧ z = eS ns ∧ NamesOk ns
theorem ok__law_names (T : Tx w K mg) (F : FnP K "_law_names" 45 [] f fd) (D_law_draw : Kd P w K mg base "_law_draw" P__law_draw (drawSp K) 1) : FnOk P w K mg base CX0 2 f fd P__law_names (poolSp K Pre_names R_names) := by
  have nd := sc__law_names.nd
  refine pool_fn F sc__law_names (fun ds ⟨_, e, _⟩ => e ▸ rfl) fun cdv A outer s H E hr => ⟨_, (pss_cons (ps_set (i := 2) nd rfl (Or.inr rfl) pe_str)
      (pss_cons (ps_set (i := 3) nd rfl (Or.inr rfl) (pe_lst pa_nil))
      (pss_cons (ps_for PassesOwn.never rfl (pi_range1 rfl T.range (pa_cons (pv 1) pa_nil)) (pg_name (i := 4) nd rfl (Or.inl rfl)) (pss_cons (ps_set (i := 5) nd rfl (Or.inl rfl) (pe_op op_add pe_int (pe_op op_mul (pe_df D_law_draw (hr.mono (by decide)) (by rfl) (pa_cons (pv 0) (pa_cons pe_int pa_nil))) (pe_df D_law_draw (hr.mono (by decide)) (by rfl) (pa_cons (pv 0) (pa_cons pe_int pa_nil))))))
        (pss_cons (ps_set (i := 6) nd rfl (Or.inr rfl) (pe_joinK (K := K) rfl pe_str (pe_lc (own := [("_law_at", 8)]) (g := gName 8) (tt := tYes) rfl nd (pi_range1 rfl T.range (pa_cons (pv 5) pa_nil)) (blkOk_by (N := N__law_names) (sc := defScope (topS 45)) (by decide +kernel)) (fun _ _ _ _ _ => (pg_name (i := 8) nd rfl (Or.inl rfl))) (fun _ _ _ _ _ => pts_nil) (fun _ _ _ _ _ => (pe_ix ix_str (pv 2) (pe_df D_law_draw (hr.mono (by decide)) (by rfl) (pa_cons (pv 0) (pa_cons pe_int pa_nil))) (fun _ _ => rfl))))))
        (pss_cons (ps_set (i := 7) nd rfl (Or.inl rfl) (pe_op op_cat (pe_lst (pa_cons (pv 6) pa_nil)) (pe_lc (own := [("_law_letter", 9)]) (g := gName 9) (tt := tYes) rfl nd (pi_str (pv 2)) (blkOk_by (N := N__law_names) (sc := defScope (topS 45)) (by decide +kernel)) (fun _ _ _ _ _ => (pg_name (i := 9) nd rfl (Or.inl rfl))) (fun _ _ _ _ _ => pts_nil) (fun _ _ _ _ _ => (pe_op op_add_str (pe_slice sl_str (pv 6) po_none (po_some (pe_un un_neg pe_int))) (pv 9))))))
        (pss_one (ps_expr (pe_bm PySem.F.plainAttrs_list PySem.F.slot_list_append PySem.F.type_list_append mt_append (pv 3) (pa_cons (pe_ix (r := rIxL K) ix_list (pe_lc (own := [("_law_one", 10)]) (g := gName 10) (tt := _) rfl nd (pi_list (pv 7)) (blkOk_by (N := N__law_names) (sc := defScope (topS 45)) (by decide +kernel)) (fun _ _ _ _ _ => (pg_name (i := 10) nd rfl (Or.inl rfl))) (fun _ _ _ _ _ => (pts_one (pt_cmpR (r := rIn K true) op_notIn_seq (pv 10) (pv 3) (by rfl)))) (fun _ _ _ _ _ => (pv 10))) pe_int (fun _ _ => rfl)) pa_nil))))))))
      (pss_one (ps_ret (pv 3)))))), fun G H p hp ds Q hR q => ?_⟩
  obtain ⟨n, rfl, hn⟩ := hR
  refine nx_seq (nx_asgD ev_str ?_)
  refine nx_seq (nx_own ?_)
  refine nx_seq (nx_for (P := fun z => z = (List.range n).map fun (k : Nat) => .int (k : Int)) (fun _ i Γ' => ∃ ns : List Str, ns.length = i ∧ NamesOk ns ∧ Γ' = [.pol p, .dat (.int n), .dat (.str sAlpha), .own (ns.map .str), .un, .un, .un, .un, .un, .un, .un])
    (wk_range (ea_cons (ev_var rfl) ea_nil) (by omega)) (.same (.same (.same (.same (.same (.same (.same (.same (.same (.same (.same .nil))))))))))) (fun _ _ => ⟨[], rfl, ⟨fun x h => (by cases h), List.nodup_nil⟩, rfl⟩) (fun ds i d Γ' G1 e hd ⟨ns, hl, nk, eΓ⟩ => ?_) (fun ds Γ' e ⟨ns, hl, nk, eΓ⟩ => ?_))
  · subst e; subst eΓ
    obtain ⟨j, hj, rfl⟩ := map_inv hd
    have hC : Pl ((Pc K G H p hp).from G1) p := ⟨rfl, rfl⟩
    have hi : i < n := by
      have := (List.getElem?_eq_some_iff.mp hj).1
      rw [List.length_range] at this
      exact this
    refine ⟨_, [4], tg_name (by decide), ?_⟩
    refine nx_seq (nx_asg (P := fun z => ∃ s : Nat, z = .int s ∧ 1 ≤ s ∧ s ≤ 8) (ev_opP ev_int (fun _ _ => ev_opP (S := fun z => ∃ s : Nat, z = .int s ∧ s ≤ 7) (ev_draw (n := 2) hC rfl ev_int (by decide) (by decide)) (fun _ _ => ev_draw (n := 8) hC rfl ev_int (by decide) (by decide)) ?_) ?_) ?_)
    · rintro d e ⟨m, rfl, lm⟩ ⟨k, rfl, lk⟩
      have hb : m * k ≤ 7 := by
        have : m = 0 ∨ m = 1 := by omega
        rcases this with rfl | rfl <;> omega
      exact fun x y G H s hx hy Q q => oo_ic (f := fun i j => i * j) (.inl ⟨by omega, by omega⟩) x y G H s hx hy Q fun v z G2 H2 e f h => q v z G2 H2 ⟨m * k, by rw [e]; exact congrArg PyData.int (Int.natCast_mul m k).symm, hb⟩ f h
    · rintro d e rfl ⟨k, rfl, lk⟩
      exact fun x y G H s hx hy Q q => oo_i (f := fun i j => i + j) x y G H s hx hy Q fun v z G2 H2 e f h => q v z G2 H2 ⟨1 + k, by rw [e]; exact congrArg PyData.int (Int.natCast_add 1 k).symm, by omega, by omega⟩ f h
    rintro d ⟨s, rfl, s1, s8⟩
    refine nx_seq (nx_asg (P := fun z => ∃ x, z = .str x ∧ IsName x) ((ev_joinP (Pj := fun ys => ys.length = s ∧ ∀ y ∈ ys, IsLet y) ev_str ((ev_lcR (R := fun _ z => ∃ c, z = .str c ∧ IsLet c) (xs := List.range s) (c := fun (k : Nat) => .int (k : Int)) (wk_range (ea_cons (ev_var rfl) ea_nil) (by omega)) (by rw [List.length_range]; omega)
      fun x hx => ⟨_, tg_name (by decide), ev_opP (ev_var rfl) (fun _ _ => ev_draw (n := 26) hC rfl ev_int (by decide) (by decide)) ?_⟩).imp ?_) ?_).imp ?_) ?_)
    · rintro d e rfl ⟨m, rfl, lm⟩
      have hc : sAlpha.cps.toList[m]? = some (alpha[m]'(by rw [alpha_len]; exact lm)) := List.getElem?_eq_getElem (l := alpha) _
      exact fun x y G H s hx hy Q q => oo_ixS (by decide +kernel) (atI_nat hc) x y G H s hx hy Q fun v z G2 H2 e f h => q v z G2 H2 ⟨_, e, _, rfl, List.getElem_mem _⟩ f h
    · rintro z ⟨zs, rfl, hF⟩
      obtain ⟨ys, rfl, hl, hy⟩ := f2_strs hF
      exact ⟨ys, rfl, by rw [hl, List.length_range], hy⟩
    · rintro ys ⟨hl, hy⟩
      have h1 := sum_le (k := 1) (xs := ys) fun y hm => by rw [let_len (hy y hm)]; exact Nat.le_refl _
      have h2 : (Str.ofString "").length = 0 := by decide +kernel
      rw [h2]
      omega
    · rintro z ⟨ys, rfl, hl, hy⟩
      exact ⟨_, rfl, name_join hy (by omega) (by omega)⟩
    rintro d ⟨x, rfl, hx⟩
    have hx8 := hx.2.1
    refine nx_seq (nx_asgD (d := eS (x :: (sgn sAlpha).map (cutS x none (some (-1)) ++ ·))) (EvD.of (ev_op (ev_lst (ea_cons (ev_var rfl) ea_nil) (by show 1 ≤ 1000; decide)) (ev_lc (xs := sgn sAlpha) (fun l => .str (cutS x none (some (-1)) ++ l)) (wk_str (ev_var rfl)) (by rw [sgn_len]; decide +kernel) fun l hl => ⟨_, tg_name (by decide), ev_op (ev_cut (ev_var rfl) (by omega)) (ev_var rfl) (oo_addS ?_)⟩) (oo_cat (by rw [List.length_map, sgn_len]; show 1 + sAlpha.length ≤ 1000; decide +kernel))) ?_) ?_)
    · have h1 := some_name hx (sgn_alpha l hl)
      have h2 := h1.2.1
      rw [Str.length_append] at h2
      omega
    · show PyData.list _ = .list _
      rw [List.map_cons, List.map_map]
      rfl
    have cands : ∀ y ∈ x :: (sgn sAlpha).map (cutS x none (some (-1)) ++ ·), IsName y := fun y hy => by
      rcases List.mem_cons.mp hy with rfl | hy
      · exact hx
      · obtain ⟨l, hl, rfl⟩ := List.mem_map.mp hy
        exact some_name hx (sgn_alpha l hl)
    have cl : (x :: (sgn sAlpha).map (cutS x none (some (-1)) ++ ·)).length = 27 := by
      rw [List.length_cons, List.length_map, sgn_len]
      decide +kernel
    obtain ⟨y0, hy0, ny0⟩ := one_new x (ns := ns) (by omega)
    have hy0 : y0 ∈ x :: (sgn sAlpha).map (cutS x none (some (-1)) ++ ·) := List.mem_cons_of_mem _ hy0
    generalize x :: (sgn sAlpha).map (cutS x none (some (-1)) ++ ·) = cs at cands cl hy0
    refine nx_app (P := fun z => ∃ y, z = .str y ∧ IsName y ∧ y ∉ ns) rfl rfl (by rw [List.length_map]; omega) (ev_opP (ev_lcP (vs := [10]) (P := fun z => z = cs.map .str) (p := fun _ i => decide (cs.getD i Str.empty ∉ ns)) (R := fun _ i z => z = .str (cs.getD i Str.empty)) (wk_list (ev_var rfl)) (fun _ e => by rw [e, List.length_map]; omega) (fun ds e i d hd => ?_)) (fun _ _ => ev_int) ?_) ?_
    · subst e
      obtain ⟨y, hy, rfl⟩ := map_inv hd
      have ey : cs.getD i Str.empty = y := by rw [List.getD_eq_getElem?_getD, hy]; rfl
      rw [ey]
      refine ⟨_, tg_name (by decide), et_test (EvD.of (ev_inOwn (ev_var rfl) rfl) ?_), fun _ => ev_var rfl⟩
      refine congrArg PyData.bool ?_
      by_cases h : y ∈ ns <;> simp [h]
    · rintro d e ⟨ds, zs, rfl, rfl, hF⟩ rfl
      have ne : zs ≠ [] := fun e => by
        subst e
        obtain ⟨k, hk⟩ := List.mem_iff_getElem?.mp hy0
        have hkl := (List.getElem?_eq_some_iff.mp hk).1
        have hm : k ∈ (List.range (cs.map PyData.str).length).filter fun i => decide (cs.getD i Str.empty ∉ ns) := by
          refine List.mem_filter.mpr ⟨List.mem_range.mpr (by rw [List.length_map]; exact hkl), ?_⟩
          rw [List.getD_eq_getElem?_getD, hk]
          exact decide_eq_true ny0
        have := hF.len
        rw [List.length_nil] at this
        rw [List.length_eq_zero_iff.mp this] at hm
        cases hm
      cases zs with
      | nil => exact absurd rfl ne
      | cons z0 zs =>
        obtain ⟨k, hk, ez⟩ := hF.mem (List.mem_cons_self ..)
        obtain ⟨k1, k2⟩ := List.mem_filter.mp hk
        have k1 := List.mem_range.mp k1
        rw [List.length_map] at k1
        have k3 : cs.getD k Str.empty = cs[k] := by rw [List.getD_eq_getElem?_getD, List.getElem?_eq_getElem k1]; rfl
        have k2 := of_decide_eq_true k2
        rw [k3] at k2 ez
        exact fun x y G H s hx hy Q q => oo_ixL (z := z0) (atI_nat (j := 0) rfl) x y G H s hx hy Q fun v z G2 H2 e f h => q v z G2 H2 ⟨cs[k], by rw [e, ez], cands _ (List.getElem_mem k1), k2⟩ f h
    · rintro d ⟨y, rfl, hy, ny⟩
      refine nx_kx ⟨ns ++ [y], by rw [List.length_append, hl]; rfl, ⟨fun x hx => ?_, ?_⟩, rfl⟩ ?_
      · rcases List.mem_append.mp hx with h | h
        · exact nk.1 x h
        · rw [List.mem_singleton.mp h]
          exact hy
      · refine List.nodup_append.mpr ⟨nk.2, List.nodup_cons.mpr ⟨fun h => (by cases h), List.nodup_nil⟩, fun a ha b hb e => ny ?_⟩
        rw [← List.mem_singleton.mp hb, ← e]
        exact ha
      · rw [List.map_append]
        exact .same (.same (.same (.same (.un (.un (.un (.un (.same (.same (.same .nil))))))))))
  · subst e; subst eΓ
    rw [List.length_map, List.length_range] at hl
    refine nx_freeze (i := 3) rfl rfl ?_
    exact nx_outP (ev_var rfl) (fun z e => ⟨ns, by rw [hl], e, nk⟩) q
end
end SN

/-! SN: a sign is drawn from a text and struck out of it: that the sign is no other object than the empty text. -/
namespace SN
open PySem L2
open PyProof.Rows hiding St
section
variable {X : Cx} {pins : List (Addr × Obj)} {σ : L2.St} {H : Hp} {s : Shared}
/-- the state behind a local store, told exactly -/
theorem inv_put {m : Str → Option Value} {i : Nat} {x : Str} {v : V} {u : Value} {g : Heap} {tk : Nat} (I : Inv X pins σ H s) (nd : X.N.Nodup) (hi : X.N[i]? = some x) (hk : X.env.scope.names.lookup x = some .local) (r : RelV v u)
    (hl : ∀ (j : Nat) (y : Str) (w : V), X.N[j]? = some y → σ[j]? = some (some w) → Vis X.env.scope y → ∃ z, RelV w z ∧ Look X.env s.heap m y z) (ons : ∃ o, s.heap.get? X.env.locals = some o) (gn : g.Ns X.env.locals (fun y => if y = x then some u else m y)) (sb : Heap.SameBut X.env.locals s.heap g) :
    Inv X pins (σ.set i (some v)) H { s with heap := g, toks := tk } := by
  have li : i < σ.length := by
    rw [I.len]
    exact (List.getElem?_eq_some_iff.mp hi).1
  have low : ∀ b o, X.s_0.heap.get? b = some o → g.get? b = s.heap.get? b := fun b o e => sb.2 b (Nat.ne_of_lt (Nat.lt_of_lt_of_le (Heap.lt_size e) I.ok.above))
  constructor
  · exact I.ok
  · exact I.os
  · exact I.bare
  · constructor
    · intro b o e n hb hx
      exact (low b o e).trans (I.base.keep b o e n hb hx)
    · intro b o e n hb hx
      obtain ⟨sl, q⟩ := I.base.slot b o e n hb hx
      exact ⟨sl, (low b o e).trans q⟩
    · exact I.base.free
    · intro b o e hx
      obtain ⟨o2, q⟩ := I.base.there b o e hx
      exact ⟨o2, (low b o e).trans q⟩
    · exact I.base.tups
    · exact I.base.frzs
    · exact I.base.tbls
  · refine ⟨_, gn, fun j y w a1 a2 a3 => ?_⟩
    by_cases hj : j = i
    · subst hj
      rw [hi] at a1
      cases a1
      rw [List.getElem?_set_self li] at a2
      cases a2
      exact ⟨u, r, .inl ⟨hk, if_pos rfl⟩⟩
    · rw [List.getElem?_set_ne (fun q => hj q.symm)] at a2
      obtain ⟨z, rz, lz⟩ := hl j y w a1 a2 a3
      refine ⟨z, rz, ?_⟩
      rcases lz with ⟨k1, k2⟩ | ⟨k1, c, k2, k3⟩
      · have ne : y ≠ x := fun q => hj (nodup_ix nd a1 (q ▸ hi))
        exact .inl ⟨k1, (if_neg ne).trans k2⟩
      · exact .inr ⟨k1, c, k2, k3.sameBut sb (I.cne y c k2)⟩
  · intro y c e
    obtain ⟨z, hz⟩ := I.cell y c e
    exact ⟨z, hz.sameBut sb (I.cne y c e)⟩
  · exact I.free
  · exact I.freeC
  · intro q hq
    obtain ⟨b1, b2, b3, b4, b5⟩ := I.pin q hq
    exact ⟨(sb.2 q.1 b3).trans b1, b2, b3, b4, b5⟩
  · intro b ob e
    refine (I.hok b ob e).stay (fun c w hc q => (sb.2 c fun z => ?_).trans q) (fun _ q => q) fun _ _ q => q
    subst z
    have fr := I.free
    rcases hc with z | hc
    · rw [← z, fr] at e
      cases e
    · rw [fr] at hc
      cases hc
  · rw [List.length_set]
    exact I.len
variable {il ip im : Nat} {lf pl mk dr : Str} {p1 p2 p3 p4 p5 p6 p7 p8 p9 p10 : Pos}
/-- len(x) of a text: a token is out behind it -/
theorem len_tok {z : Str} {Q : Value → Shared → Prop} {E : Value → Shared → Prop} (I : Inv X pins σ H s) (hN : X.N[il]? = some lf) (hv : Vis X.env.scope lf) (hσ : σ[il]? = some (some (.str z))) (hz : z.length ≤ 1000) (hg : Gl X "len") (hm : X.mg "len" = none)
    (fin : ∀ t k, 1 ≤ k → Q (.int z.length t) { s with toks := k }) (hd : (lf == ("__debug__" : Str)) = false) (hc : (lf == ("__classdict__" : Str)) = false) (he : starEach [.Name lf p6] X.env = [(false, eval (.Name lf p6) X.env)]) : wpAny (model X.prog X.w) X.A (eval (.Call (.Name "len" p5) [.Name lf p6] [] p7) X.env) Q E s := by
  refine wpAny_Call_Name_kw (ld_blt I hg hm boot_len ?_)
  refine callWith_builtin1 ?_ he rfl
  rw [he]
  refine Calls.spliced_cons (raw_name hN hv I hσ (fun v r => ?_) hd hc)
  obtain ⟨t, rfl⟩ := r
  refine Calls.spliced_nil ?_
  have hs : sizeLine = 16777216 := sizeLine_eq
  exact len_str (by omega) (fin _ _ (by show 1 ≤ s.toks + 1 + 1; omega))
/-- draw(pool, len(x)): a token is out behind it -/
theorem draw_tok {k : Nat} {z : Str} {p : Addr} {Q : VK} {sp : Sp} (D : Kd X.prog X.w X.K X.mg X.base dr P__law_draw sp k) (hr : Room k X.A) (hgd : Gl X dr) (I : Inv X pins σ H s) (hNl : X.N[il]? = some lf) (hvl : Vis X.env.scope lf) (hσl : σ[il]? = some (some (.str z))) (hz : z.length ≤ 1000)
    (hNp : X.N[ip]? = some pl) (hvp : Vis X.env.scope pl) (hσp : σ[ip]? = some (some (.ref p))) (hg : Gl X "len") (hm : X.mg "len" = none) (q : sp [.ref p, .int z.length] H Q E0)
    (d1 : (lf == ("__debug__" : Str)) = false) (d2 : (lf == ("__classdict__" : Str)) = false) (d3 : (pl == ("__debug__" : Str)) = false) (d4 : (pl == ("__classdict__" : Str)) = false) (d5 : (dr == ("__debug__" : Str)) = false)
    (he : starEach [.Name pl p4, .Call (.Name "len" p5) [.Name lf p6] [] p7] X.env = [(false, eval (.Name pl p4) X.env), (false, eval (.Call (.Name "len" p5) [.Name lf p6] [] p7) X.env)]) (he2 : starEach [.Call (.Name "len" p5) [.Name lf p6] [] p7] X.env = [(false, eval (.Call (.Name "len" p5) [.Name lf p6] [] p7) X.env)]) (he3 : starEach [.Name lf p6] X.env = [(false, eval (.Name lf p6) X.env)]) :
    wpAny (model X.prog X.w) X.A (eval (.Call (.Name dr p3) [.Name pl p4, .Call (.Name "len" p5) [.Name lf p6] [] p7] [] p8) X.env) (fun v s' => 1 ≤ s'.toks ∧ EP X pins σ Q v s') X.xe s := by
  obtain ⟨f, fd, h1, h2, h3, h4⟩ := D.ex
  refine wpAny_Call_Name_kw (ld_glob I hgd h1 ?_ d5)
  refine PySem.W.callWith_K (h₀ := X.base) I.ok.mod.kin h2 ?_ (by rw [he, he2]) (by rw [he2]; rfl)
  rw [he]
  refine Calls.spliced_cons (raw_name hNp hvp I hσp (fun v r => ?_) d3 d4)
  cases r
  refine Calls.spliced_cons (len_tok I hNl hvl hσl hz hg hm (fun t k hk => ?_) d1 d2 he3)
  refine Calls.spliced_nil ⟨(I.tok k).kIn, ?_⟩
  refine wpAny_mono (PySem.wpAny_toks_of (n := 1) hk (run_fn h4 hr h3 .nil pass0 (I.tok k) (us := [.ref p, .int z.length t]) (vs := [.ref p, .int z.length]) (.cons rfl (.cons ⟨t, rfl⟩ .nil)) q)) (fun v s' q => q) fun e s' q => q.2
/-- mark = left[draw(pool, len(left))]; left = left.replace(mark, "") -/
def tMark (K : PySem.W.Frag) (sp : Sp) (ip il im : Nat) (u : TS) : TS := fun D σ H => ∃ (p : Addr) (z : Str), σ[ip]? = some (some (.ref p)) ∧ σ[il]? = some (some (.str z)) ∧ z.length ≤ 1000 ∧
  sp [.ref p, .int z.length] H (fun v H1 => ∃ i c, v = .int i ∧ atI z.cps.toList i = some c ∧ u D ((σ.set im (some (.str ⟨#[c]⟩))).set il (some (.str (Txt.replace z ⟨#[c]⟩ Str.empty)))) H1) E0
theorem pss_mark {k j0 : Nat} {sp : Sp} {rest : List Stmt} {u : TS} {q1 q2 q3 q4 q5 q6 q7 : Pos} (D : Kd X.prog X.w X.K X.mg X.base dr P__law_draw sp k) (hr : Room k X.A) (hgd : Gl X dr) (nd : X.N.Nodup) (hNl : X.N[il]? = some lf) (hkl : X.env.scope.names.lookup lf = some .local) (hNp : X.N[ip]? = some pl) (hvp : Vis X.env.scope pl)
    (hNm : X.N[im]? = some mk) (hkm : X.env.scope.names.lookup mk = some .local) (hlm : il ≠ im) (hpm : ip ≠ im) (hg : Gl X "len") (hm : X.mg "len" = none) (hrest : PSs X rest u)
    (d1 : (lf == ("__debug__" : Str)) = false := by decide) (d2 : (lf == ("__classdict__" : Str)) = false := by decide) (d3 : (pl == ("__debug__" : Str)) = false := by decide) (d4 : (pl == ("__classdict__" : Str)) = false := by decide) (d5 : (dr == ("__debug__" : Str)) = false := by decide) (d6 : (mk == ("__debug__" : Str)) = false := by decide)
    (he : starEach [.Name pl p4, .Call (.Name "len" p5) [.Name lf p6] [] p7] X.env = [(false, eval (.Name pl p4) X.env), (false, eval (.Call (.Name "len" p5) [.Name lf p6] [] p7) X.env)] := by rfl) (he2 : starEach [.Call (.Name "len" p5) [.Name lf p6] [] p7] X.env = [(false, eval (.Call (.Name "len" p5) [.Name lf p6] [] p7) X.env)] := by rfl) (he3 : starEach [.Name lf p6] X.env = [(false, eval (.Name lf p6) X.env)] := by rfl)
    (hsw : swapsWith (.Subscript (.Name lf p2) (.Call (.Name dr p3) [.Name pl p4, .Call (.Name "len" p5) [.Name lf p6] [] p7] [] p8) p9) (some (.Name mk p1)) p10.line X.env = pure false := by rfl)
    (hsi : ∀ v u, subscripted (.Call (.Name dr p3) [.Name pl p4, .Call (.Name "len" p5) [.Name lf p6] [] p7] [] p8) false v u = operate [v, u] (getItem v u) := by intro _ _; rfl)
    (hsw2 : swapsWith (.Call (.Attribute (.Name lf q2) "replace" q3) [.Name mk q4, .Constant (.str "") j0 q5] [] q6) (some (.Name lf q1)) q7.line X.env = pure false := by rfl)
    (hst : starEach [.Name mk q4, .Constant (.str "") j0 q5] X.env = [(false, eval (.Name mk q4) X.env), (false, eval (.Constant (.str "") j0 q5) X.env)] := by rfl)
    (hbase : attributeBase (.Name lf q2) "replace" X.env (eval (.Name lf q2) X.env) = eval (.Name lf q2) X.env := by rfl) (hline : (q3.endLine == q6.line) = true := by rfl) :
    PSs X (.Assign [.Name mk p1] (.Subscript (.Name lf p2) (.Call (.Name dr p3) [.Name pl p4, .Call (.Name "len" p5) [.Name lf p6] [] p7] [] p8) p9) p10 :: .Assign [.Name lf q1] (.Call (.Attribute (.Name lf q2) "replace" q3) [.Name mk q4, .Constant (.str "") j0 q5] [] q6) q7 :: rest) (tMark X.K sp ip il im u) := by
  refine ⟨fun pins s σ H De I h => ?_⟩
  obtain ⟨p, z, hp, hl, hz, h⟩ := h
  have hs : sizeLine = 16777216 := sizeLine_eq
  have hn63 := line63
  refine wpAny_execs_cons (wpAny_Assign_Name (Subscript_ (raw_name hNl (.inl hkl) I hl (fun v r => ?_) d1 d2)) hsw)
  obtain ⟨tz, rfl⟩ := r
  refine thn (draw_tok D hr hgd I hNl (.inl hkl) hl hz hNp hvp hp hg hm h d1 d2 d3 d4 d5 he he2 he3) fun v s1 ⟨k1, x, H1, I1, r1, i, c, ex, hc, h⟩ => ?_
  subst ex
  obtain ⟨ti, rfl⟩ := r1
  obtain ⟨j, a1, a2, a3, a4, a5⟩ := atI_get hc
  have lz : z.cps.toList.length = z.length := by simp [Str.length]
  rw [lz] at a1 a4 a5
  refine tail_any (typeIs_str s1 z tz) slot_str_getitem.lookup (getItem_str (c := c) (by
    rw [decide_eq_false (by omega : ¬ i < -(2 ^ 63 : Int)), decide_eq_false (by omega : ¬ i ≥ 2 ^ 63)]
    rfl) (by rw [a1]; simpa using a2) ?_) (hsi _ _)
  have I2 : Inv X pins σ H1 { s1 with toks := s1.toks + 1 } := I1.tok _
  obtain ⟨m, hn, hlk⟩ := id I2.loc
  obtain ⟨oL, _, _, hoL, _⟩ := id hn
  refine wpAny_storeName_local hkm hn (fun g gn sb => ?_) (by rw [I.ok.kind]; rfl)
  have I3 := inv_put (tk := s1.toks + 1 + 1) I2 nd hNm hkm (v := .str ⟨#[c]⟩) ⟨s1.toks, rfl⟩ hlk ⟨oL, hoL⟩ gn sb
  have hl3 : (σ.set im (some (.str ⟨#[c]⟩)))[il]? = some (some (.str z)) := by
    rw [List.getElem?_set_ne (fun q => hlm q.symm)]
    exact hl
  refine wpAny_execs_cons (wpAny_Assign_Name (PySem.Call_method2 hbase hst hline (raw_name hNl (.inl hkl) I3 hl3 (fun v r => ?_) d1 d2)) hsw2)
  obtain ⟨tx, rfl⟩ := r
  refine ⟨"str", _, PySem.F.plainAttrs_str, PySem.F.slot_str_replace, PySem.F.type_str_replace, typeIs_str _ _ _, (fun _ e => nomatch e), Calls.callWith_builtin rfl (Calls.evalArgs_plain (Calls.spliced_cons ?_))⟩
  refine wpAny_Name (wpAny_loadName_local I3.ok.kind hkm gn (if_pos rfl) ?_) d6
  refine Calls.spliced_cons (Calls.Constant_str (Calls.spliced_nil ?_))
  have ne : ((⟨#[c]⟩ : Str) == Str.ofString "") = false := beq_eq_false_iff_ne.mpr fun e => by
    have := congrArg (fun s : Str => s.cps.size) e
    have e0 : (Str.ofString "").cps.size = 0 := by decide +kernel
    simp only [e0] at this
    cases this
  have e0 : (Str.ofString "").length = 0 := by decide +kernel
  refine PySem.SC.replace (by show s1.toks ≠ 0; omega) (by show s1.toks + 1 + 1 ≠ 0; omega) (by show s1.toks ≠ s1.toks + 1 + 1; omega) ne (by rw [e0]; omega) fun t' k' => ?_
  refine store_ok (v := .str (Txt.replace z ⟨#[c]⟩ (Str.ofString ""))) (I3.tok k') nd hNl (.inl hkl) ⟨t', rfl⟩ (fun s4 I4 => ?_) (.inr hkl)
  have ee : Str.ofString "" = Str.empty := by decide +kernel
  rw [ee] at I4
  exact hrest.run pins s4 _ H1 De I4 h
end
end SN

/-! SN: marks, steps, a book, new names. -/
namespace SN
open PySem L2
section
variable {P : Program} {w : World} {K : PySem.W.Frag} {mg : Str → Option Value} {base : Heap} {f : Addr} {fd : FuncData}
section
variable {C : Cn} {Γ : List Sl} {te tb : TE} {nx bk ct : St → Hp → Prop} {rt : VK}
theorem nx_mark {ip il im : Nat} {p : Addr} {z : Str} {u : TS} (hC : Pl C p) (hp : Γ[ip]? = some (.pol p)) (hl : Γ[il]? = some (.dat (.str z))) (z1 : 1 ≤ z.length) (z2 : z.length ≤ 1000)
    (k : ∀ c, c ∈ z.cps.toList → Nx C ((Γ.set im (.dat (.str ⟨#[c]⟩))).set il (.dat (.str (Txt.replace z ⟨#[c]⟩ Str.empty)))) (u ⟨nx, rt, bk, ct⟩)) : Nx C Γ (tMark C.K (drawSp C.K) ip il im u ⟨nx, rt, bk, ct⟩) := fun σ G H Em => by
  obtain ⟨o, e, rfl, m, gp, _⟩ := Em.sl ip _ hp
  obtain ⟨v, e2, hv⟩ := Em.get hl
  have ev := dp_str hv
  subst ev
  refine ⟨p, z, e, e2, z2, G, p, _, [.int z.length], rfl, Em.fr.gh, gp, .cons (.int _) .nil, hC.i ▸ Em.inv, ⟨z.length, rfl, z1, z2⟩, fun v y G2 H2 r f iv hy => ?_⟩
  obtain ⟨n, i, en, ey, lt⟩ := r
  have en : z.length = n := by
    have := PyData.int.inj (List.head_eq_of_cons_eq en)
    omega
  subst ey
  rw [dp_int hy]
  have hl : i < z.cps.toList.length := by
    rw [show z.cps.toList.length = z.length by simp [Str.length], en]
    exact lt
  refine ⟨i, z.cps.toList[i], rfl, atI_nat (List.getElem?_eq_getElem hl), ?_⟩
  exact k _ (List.getElem_mem hl) _ G2 H2 (((Em.stepM (hC.m ▸ f) (hC.i ▸ iv)).setD (.str _)).setD (.str _))
/-- x.insert(at, e) -/
theorem nx_ins {i : Nat} {ti : TE} {ds : List PyData} {d : PyData} (hi : Γ[i]? = some (.own ds)) (hu : lone Γ i = true) (hl : ds.length ≤ 1000) (h1 : Ev C ti Γ fun z => ∃ m : Nat, z = .int m ∧ m < ds.length + 1) (h : EvD C te Γ d) (k : ∀ m, m ≤ ds.length → Nx C (Γ.set i (.own (ds.take m ++ [d] ++ ds.drop m))) nx) :
    Nx C Γ (tDrop (tBM C.K "list" (fun x vs H Q => ∃ (l : Addr) (xs : List V) (i : Int) (y : V), x = .ref l ∧ vs = [.int i, y] ∧ H l = some (.lst xs) ∧ xs.length < sizeLine ∧ 0 ≤ i ∧ i < 2 ^ 63 ∧ Q .non (upd H l (.lst (xs.take i.toNat ++ [y] ++ xs.drop i.toNat)))) (tVar i) (tCons ti (tCons te tNil))) ⟨nx, rt, bk, ct⟩) := fun σ G H E => by
  obtain ⟨o, e, l, vs, rfl, h0, g, hH, ha⟩ := E.sl i _ hi
  refine ⟨.ref l, e, .inl ⟨rfl, _, .of hH⟩, ?_⟩
  refine h1 σ G H E _ fun v d1 G1 H1 p1 f1 iv1 hv1 => ?_
  obtain ⟨m, rfl, hm⟩ := p1
  have ev := dp_int hv1
  subst ev
  have E1 := E.stepM f1 iv1
  refine h σ G1 H1 E1 _ fun v d2 G2 H2 p f iv hv => ?_
  subst p
  have E2 := E1.stepM f iv
  obtain ⟨o', e', l', vs', rfl, h0', g', hH', ha'⟩ := E2.sl i _ hi
  rw [e] at e'
  cases e'
  refine ⟨l, vs', m, v, rfl, rfl, hH', small1000 (by rw [dpa_len ha']; exact hl), by omega, by omega, ?_⟩
  rw [Int.toNat_natCast]
  exact k m (by omega) σ G2 _ (E2.putOwn hi hu e h0' g' hH' (dpa_app (dpa_app (dpa_take m ha') (dpa_one hv)) (dpa_drop m ha')))
end
abbrev N__law_marks : List Str := ["_law_pool_here", "_law_many", "_law_left", "_law_found", "_law_k", "_law_mark"]
abbrev P__law_marks : List Str := ["_law_pool_here", "_law_many"]
theorem sc__law_marks : FnScope N__law_marks P__law_marks (defScope (topS 47)) := ⟨rfl, rfl, rfl, by decide +kernel, rfl, by decide +kernel, by decide +kernel⟩
def MarksOk (ms : List Str) : Prop := (∀ x ∈ ms, IsLet x) ∧ ms.Nodup
def R_marks (ds : List PyData) (z : PyData) : Prop := ∃ ms : List Str, ds = [.int (ms.length : Nat)] ∧ z = eS ms ∧ MarksOk ms
theorem ok__law_marks (T : Tx w K mg) (F : FnP K "_law_marks" 47 [] f fd) (D_law_draw : Kd P w K mg base "_law_draw" P__law_draw (drawSp K) 1) : FnOk P w K mg base CX0 2 f fd P__law_marks (poolSp K Pre_names R_marks) := by
  have nd := sc__law_marks.nd
  refine pool_fn F sc__law_marks (fun ds ⟨_, e, _⟩ => e ▸ rfl) fun cdv A outer s H E hr => ⟨_, (pss_cons (ps_set (i := 2) nd rfl (Or.inl rfl) pe_str)
      (pss_cons (ps_set (i := 3) nd rfl (Or.inl rfl) (pe_lst pa_nil))
      (pss_cons (ps_for PassesOwn.never rfl (pi_range1 rfl T.range (pa_cons (pv 1) pa_nil)) (pg_name (i := 4) nd rfl (Or.inl rfl)) (pss_mark (ip := 0) (il := 2) (im := 5) D_law_draw (hr.mono (by decide)) (by rfl) nd rfl rfl rfl (Or.inl rfl) rfl rfl (by decide) (by decide) (by rfl) T.len
        (pss_one (ps_expr (pe_bm PySem.F.plainAttrs_list PySem.F.slot_list_append PySem.F.type_list_append mt_append (pv 3) (pa_cons (pv 5) pa_nil))))))
      (pss_one (ps_ret (pv 3)))))), fun G H p hp ds Q hR q => ?_⟩
  obtain ⟨n, rfl, hn⟩ := hR
  refine nx_seq (nx_asgD ev_str ?_)
  refine nx_seq (nx_own ?_)
  refine nx_seq (nx_for (P := fun z => z = (List.range n).map fun (k : Nat) => .int (k : Int)) (fun _ i Γ' => ∃ (ms : List Str) (left : Str), ms.length = i ∧ MarksOk ms ∧ left.cps.toList.length + i = 26 ∧ (∀ c ∈ left.cps.toList, c ∈ alpha ∧ (⟨#[c]⟩ : Str) ∉ ms) ∧ left.cps.toList.Nodup ∧ Γ' = [.pol p, .dat (.int n), .dat (.str left), .own (ms.map .str), .un, .un])
    (wk_range (ea_cons (ev_var rfl) ea_nil) (by omega)) (.same (.same (.same (.same (.same (.same .nil)))))) (fun _ _ => ⟨[], sAlpha, rfl, ⟨fun x h => (by cases h), List.nodup_nil⟩, alpha_len, fun c hc => ⟨hc, fun h => (by cases h)⟩, alpha_nd, rfl⟩) (fun ds i d Γ' G1 e hd ⟨ms, left, hl, mk, ll, lm, ln, eΓ⟩ => ?_) (fun ds Γ' e ⟨ms, left, hl, mk, ll, lm, ln, eΓ⟩ => ?_))
  · subst e; subst eΓ
    obtain ⟨j, hj, rfl⟩ := map_inv hd
    have hC : Pl ((Pc K G H p hp).from G1) p := ⟨rfl, rfl⟩
    have hi : i < n := by
      have := (List.getElem?_eq_some_iff.mp hj).1
      rw [List.length_range] at this
      exact this
    have el : left.length = left.cps.toList.length := by simp [Str.length]
    refine ⟨_, [4], tg_name (by decide), ?_⟩
    refine nx_mark hC rfl rfl (by omega) (by omega) fun c hc => ?_
    have er := PyProof.Rows.replace_strikes left c
    refine nx_appD rfl rfl (by rw [List.length_map]; omega) (ev_var rfl) (nx_kx ⟨ms ++ [⟨#[c]⟩], Txt.replace left ⟨#[c]⟩ Str.empty, by rw [List.length_append, hl]; rfl, ⟨fun x hx => ?_, ?_⟩, ?_, fun d hd => ?_, ?_, rfl⟩ ?_)
    · rcases List.mem_append.mp hx with h | h
      · exact mk.1 x h
      · rw [List.mem_singleton.mp h]
        exact ⟨c, rfl, (lm c hc).1⟩
    · refine List.nodup_append.mpr ⟨mk.2, List.nodup_cons.mpr ⟨fun h => (by cases h), List.nodup_nil⟩, fun a ha b hb e => (lm c hc).2 ?_⟩
      rw [← List.mem_singleton.mp hb, ← e]
      exact ha
    · have h1 : (Txt.replace left ⟨#[c]⟩ Str.empty).cps.toList = left.cps.toList.erase c := by
        rw [show Str.empty = (⟨#[]⟩ : Str) from rfl, er, List.Nodup.erase_eq_filter ln]
      rw [h1, List.length_erase_of_mem hc]
      have := List.length_pos_of_mem hc
      omega
    · rw [show Str.empty = (⟨#[]⟩ : Str) from rfl, er] at hd
      obtain ⟨d1, d2⟩ := List.mem_filter.mp hd
      obtain ⟨l1, l2⟩ := lm d d1
      refine ⟨l1, fun h => ?_⟩
      rcases List.mem_append.mp h with h | h
      · exact l2 h
      · have e := List.mem_singleton.mp h
        have e2 : d = c := by
          have := congrArg (fun s : Str => s.cps.toList) e
          simpa using this
        rw [e2] at d2
        simp at d2
    · rw [show Str.empty = (⟨#[]⟩ : Str) from rfl, er]
      exact ln.filter _
    · rw [List.map_append]
      exact .same (.same (.same (.same (.un (.un .nil)))))
  · subst e; subst eΓ
    rw [List.length_map, List.length_range] at hl
    refine nx_freeze (i := 3) rfl rfl ?_
    exact nx_outP (ev_var rfl) (fun z e => ⟨ms, by rw [hl], e, mk⟩) q

abbrev N__law_steps : List Str := ["_law_pool_here", "_law_marks_here", "_law_found", "_law_more", "_law_mark", "_law_deed", "_law_k"]
abbrev P__law_steps : List Str := ["_law_pool_here", "_law_marks_here"]
theorem sc__law_steps : FnScope N__law_steps P__law_steps (defScope (topS 48)) := ⟨rfl, rfl, rfl, by decide +kernel, rfl, by decide +kernel, by decide +kernel⟩
def Pre_steps (ds : List PyData) : Prop := ∃ ms : List Str, ds = [eS ms] ∧ 1 ≤ ms.length ∧ ms.length ≤ 4
def StepsOk (ms : List Str) (ps : List Pr) : Prop := 1 ≤ ps.length ∧ ps.length ≤ 8 ∧ (∀ q ∈ ps, q.1 ∈ dds ∧ q.2 ∈ ms) ∧ ∀ l ∈ ms, l ∈ ps.map Prod.snd
def R_steps (ds : List PyData) (z : PyData) : Prop := ∃ (ms : List Str) (ps : List Pr), ds = [eS ms] ∧ z = .list (ps.map eP) ∧ StepsOk ms ps
theorem eS_inj {xs ys : List Str} (h : eS xs = eS ys) : xs = ys := by
  have h1 : xs.map PyData.str = ys.map PyData.str := PyData.list.inj h
  induction xs generalizing ys with
  | nil =>
    cases ys with
    | nil => rfl
    | cons y ys => cases h1
  | cons x xs ih =>
    cases ys with
    | nil => cases h1
    | cons y ys =>
      obtain ⟨a, b⟩ := List.cons.inj h1
      rw [PyData.str.inj a, ih (congrArg PyData.list b) b]
theorem ok__law_steps (T : Tx w K mg) (F : FnP K "_law_steps" 48 [] f fd) (D_law_draw : Kd P w K mg base "_law_draw" P__law_draw (drawSp K) 1) : FnOk P w K mg base CX0 2 f fd P__law_steps (poolSp K Pre_steps R_steps) := by
  have nd := sc__law_steps.nd
  refine pool_fn F sc__law_steps (fun ds ⟨_, e, _⟩ => e ▸ rfl) fun cdv A outer s H E hr => ⟨_, (pss_cons (ps_set (i := 2) nd rfl (Or.inl rfl) (pe_lst pa_nil))
      (pss_cons (ps_setLc (i := 3) (own := [("_law_k", 6)]) (g := gName 6) (tt := tYes) rfl nd rfl rfl (sw_true rfl rfl rfl (by decide +kernel)) (pi_range1 rfl T.range (pa_cons (pe_df D_law_draw (hr.mono (by decide)) (by rfl) (pa_cons (pv 0) (pa_cons pe_int pa_nil))) pa_nil)) (blkOk_by (N := N__law_steps) (sc := defScope (topS 48)) (by decide +kernel)) (fun _ _ _ _ _ => (pg_name (i := 6) nd rfl (Or.inl rfl))) (fun _ _ _ _ _ => pts_nil) (fun _ _ _ _ _ => (pe_ix (r := rIxL K) ix_list (pv 1) (pe_df D_law_draw (hr.mono (by decide)) (by rfl) (pa_cons (pv 0) (pa_cons (pe_callB (r := fun xs H Q => ∃ x n, xs = [x] ∧ LenV K x H n ∧ Q (.int n) H) call_len (by rfl) T.len (by decide +kernel) (pa_cons (pv 1) pa_nil)) pa_nil))) (fun _ _ => rfl))))
      (pss_cons (ps_for PassesOwn.never rfl (pi_list (pe_op op_cat (pv 1) (pv 3))) (pg_name (i := 4) nd rfl (Or.inl rfl)) (pss_cons (ps_set (i := 5) nd rfl (Or.inl rfl) (pe_ix (r := rIxL K) ix_list (pe_lst (pa_cons pe_str (pa_cons pe_str (pa_cons pe_str (pa_cons pe_str (pa_cons pe_str (pa_cons pe_str pa_nil))))))) (pe_df D_law_draw (hr.mono (by decide)) (by rfl) (pa_cons (pv 0) (pa_cons pe_int pa_nil))) (fun _ _ => rfl)))
        (pss_one (ps_expr (pe_bm PySem.F.plainAttrs_list PySem.F.slot_list_insert PySem.F.type_list_insert mt_insert (pv 2) (pa_cons (pe_df D_law_draw (hr.mono (by decide)) (by rfl) (pa_cons (pv 0) (pa_cons (pe_op op_add (pe_callB (r := fun xs H Q => ∃ x n, xs = [x] ∧ LenV K x H n ∧ Q (.int n) H) call_len (by rfl) T.len (by decide +kernel) (pa_cons (pv 2) pa_nil)) pe_int) pa_nil))) (pa_cons (pe_tup (pa_cons (pv 5) (pa_cons (pv 4) pa_nil))) pa_nil)))))))
      (pss_one (ps_ret (pv 2)))))), fun G H p hp ds Q hR q => ?_⟩
  obtain ⟨ms, rfl, m1, m4⟩ := hR
  have hC : Pl (Pc K G H p hp) p := ⟨rfl, rfl⟩
  refine nx_seq (nx_own ?_)
  refine nx_seq (nx_asg (P := fun z => ∃ ys : List Str, z = eS ys ∧ ys.length ≤ 4 ∧ ∀ y ∈ ys, y ∈ ms) ((ev_lcP (vs := [6]) (P := fun z => ∃ n : Nat, n ≤ 4 ∧ z = (List.range n).map fun (k : Nat) => .int (k : Int)) (p := fun _ _ => true) (R := fun _ _ z => ∃ c, z = .str c ∧ c ∈ ms)
    (wk_rangeP (ea_consP (ev_draw (n := 5) hC rfl ev_int (by decide) (by decide)) fun _ _ => ea_nil) ?_) (fun ds ⟨n, hn, e⟩ => by rw [e, List.length_map, List.length_range]; omega) (fun ds ⟨n, hn, e⟩ i d hd => ⟨_, tg_name (by decide), et_yes, fun _ => ev_opP (ev_var rfl) (fun _ _ => ev_draw (n := ms.length) hC rfl (EvD.of (ev_cb (ea_cons (ev_var rfl) ea_nil) cb_lenL) (by rw [List.length_map])) m1 (by omega)) ?_⟩)).imp ?_) ?_)
  · rintro ds ⟨d, ds', rfl, ⟨m, rfl, lm⟩, rfl⟩
    exact ⟨m, rfl, by omega, m, by omega, rfl⟩
  · rintro d e rfl ⟨k, rfl, lk⟩
    exact fun x y G H s hx hy Q q => oo_ixM (atI_nat (List.getElem?_eq_getElem lk)) x y G H s hx hy Q fun v z G2 H2 e f h => q v z G2 H2 ⟨_, e, List.getElem_mem lk⟩ f h
  · rintro z ⟨ds, zs, rfl, ⟨n, hn, rfl⟩, hF⟩
    rw [range_all] at hF
    obtain ⟨ys, rfl, hl, hy⟩ := f2_strs hF
    exact ⟨ys, rfl, by rw [hl, List.length_range, List.length_map, List.length_range]; exact hn, hy⟩
  rintro d ⟨ys, rfl, y4, hy⟩
  refine nx_seq (nx_for (P := fun z => z = (ms ++ ys).map .str) (fun _ i Γ' => ∃ ps : List Pr, ps.length = i ∧ (∀ q ∈ ps, q.1 ∈ dds ∧ q.2 ∈ ms) ∧ (∀ l ∈ (ms ++ ys).take i, l ∈ ps.map Prod.snd) ∧ Γ' = [.pol p, .dat (eS ms), .own (ps.map eP), .dat (eS ys), .un, .un, .un])
    (wk_list (EvD.of (ev_op (ev_var rfl) (ev_var rfl) (oo_cat (by rw [List.length_map, List.length_map]; omega))) (by rw [List.map_append]))) (.same (.same (.same (.same (.same (.same (.same .nil))))))) (fun _ _ => ⟨[], rfl, fun q h => (by cases h), fun l h => (by cases h), rfl⟩) (fun ds i d Γ' G1 e hd ⟨ps, hl, pk, pc, eΓ⟩ => ?_) (fun ds Γ' e ⟨ps, hl, pk, pc, eΓ⟩ => ?_))
  · subst e; subst eΓ
    obtain ⟨l, hj, rfl⟩ := map_inv hd
    have hC : Pl ((Pc K G H p hp).from G1) p := ⟨rfl, rfl⟩
    have hi : i < (ms ++ ys).length := (List.getElem?_eq_some_iff.mp hj).1
    rw [List.length_append] at hi
    have lms : l ∈ ms := by
      rcases List.mem_append.mp (List.mem_of_getElem? hj) with h | h
      · exact h
      · exact hy l h
    refine ⟨_, [4], tg_name (by decide), ?_⟩
    refine nx_seq (nx_asg (P := fun z => ∃ d, z = .str d ∧ d ∈ dds) (ev_opP (ev_lst (ea_cons ev_str (ea_cons ev_str (ea_cons ev_str (ea_cons ev_str (ea_cons ev_str (ea_cons ev_str ea_nil)))))) (by show 6 ≤ 1000; decide)) (fun _ _ => ev_draw (n := 6) hC rfl ev_int (by decide) (by decide)) ?_) ?_)
    · rintro d e rfl ⟨k, rfl, lk⟩
      have hz : ∃ x, ([sRead, sRead, sRead, sWrite, sWrite, sAsk].map PyData.str)[k]? = some (.str x) ∧ x ∈ dds := by
        have : k = 0 ∨ k = 1 ∨ k = 2 ∨ k = 3 ∨ k = 4 ∨ k = 5 := by omega
        rcases this with rfl | rfl | rfl | rfl | rfl | rfl
        · exact ⟨sRead, rfl, by simp [dds]⟩
        · exact ⟨sRead, rfl, by simp [dds]⟩
        · exact ⟨sRead, rfl, by simp [dds]⟩
        · exact ⟨sWrite, rfl, by simp [dds]⟩
        · exact ⟨sWrite, rfl, by simp [dds]⟩
        · exact ⟨sAsk, rfl, by simp [dds]⟩
      obtain ⟨x0, hx0, hd0⟩ := hz
      exact fun x y G H s hx hy Q q => oo_ixL (atI_nat hx0) x y G H s hx hy Q fun v z G2 H2 e f h => q v z G2 H2 ⟨x0, e, hd0⟩ f h
    rintro d ⟨x, rfl, hx⟩
    refine nx_ins (d := eP (x, l)) rfl rfl (by rw [List.length_map]; omega) ((ev_draw (n := (ps.map eP).length + 1) hC rfl (ev_op (ev_lenOwn rfl) ev_int oo_i) (by omega) (by rw [List.length_map]; omega))) (ev_tup (ea_cons (ev_var rfl) (ea_cons (ev_var rfl) ea_nil)) (by show 2 ≤ 1000; decide)) fun m hm => ?_
    have mem : ∀ q : Pr, q ∈ ps.take m ++ [(x, l)] ++ ps.drop m ↔ q ∈ ps ∨ q = (x, l) := fun q => by
      rw [List.mem_append, List.mem_append, List.mem_singleton]
      have : q ∈ ps ↔ q ∈ ps.take m ∨ q ∈ ps.drop m := by
        rw [← List.mem_append, List.take_append_drop]
      rw [this]
      constructor
      · rintro ((h | h) | h)
        · exact .inl (.inl h)
        · exact .inr h
        · exact .inl (.inr h)
      · rintro ((h | h) | h)
        · exact .inl (.inl h)
        · exact .inr h
        · exact .inl (.inr h)
    refine nx_kx ⟨ps.take m ++ [(x, l)] ++ ps.drop m, ?_, fun q hq => ?_, fun y hy => ?_, rfl⟩ ?_
    · rw [List.length_append, List.length_append, List.length_take, List.length_drop]
      rw [List.length_map] at hm
      show min m ps.length + 1 + _ = _
      omega
    · rcases (mem q).mp hq with h | h
      · exact pk q h
      · rw [h]
        exact ⟨hx, lms⟩
    · rw [take_more hj] at hy
      refine List.mem_map.mpr ?_
      rcases List.mem_append.mp hy with h | h
      · obtain ⟨q, hq, e⟩ := List.mem_map.mp (pc y h)
        exact ⟨q, (mem q).mpr (.inl hq), e⟩
      · exact ⟨(x, l), (mem _).mpr (.inr rfl), (List.mem_singleton.mp h).symm⟩
    · rw [List.map_append, List.map_append, List.map_take, List.map_drop]
      exact .same (.same (.same (.same (.un (.un (.same .nil))))))
  · subst e; subst eΓ
    rw [List.length_map] at hl pc
    rw [List.take_length] at pc
    rw [List.length_append] at hl
    refine nx_freeze (i := 2) rfl rfl ?_
    exact nx_outP (ev_var rfl) (fun z e => ⟨ms, ps, rfl, e, by omega, by omega, pk, fun l hl => pc l (List.mem_append_left _ hl)⟩) q
end
end SN

/-! SN: new names, a book of draws, an order. -/
namespace SN
open PySem L2
section
variable {C : Cn} {Γ : List Sl} {te : TE} {E : XK} {i n : Nat} {p : Addr}
theorem ev_names (hC : Pl C p) (hi : Γ[i]? = some (.pol p)) (h : EvD C te Γ (.int n)) (hn : n ≤ 20) : Ev C (tCall (poolSp C.K Pre_names R_names) [] E (tCons (tVar i) (tCons te tNil))) Γ (fun z => ∃ ns, z = eS ns ∧ ns.length = n ∧ NamesOk ns) :=
  (ev_pool hC hi (ea_cons h ea_nil) ⟨n, rfl, hn⟩).imp fun z ⟨ns, e, ez, ok⟩ => ⟨ns, ez, by
    have e1 : (n : Int) = (ns.length : Nat) := PyData.int.inj (List.head_eq_of_cons_eq e)
    omega, ok⟩
theorem ev_marks (hC : Pl C p) (hi : Γ[i]? = some (.pol p)) (h : EvD C te Γ (.int n)) (hn : n ≤ 20) : Ev C (tCall (poolSp C.K Pre_names R_marks) [] E (tCons (tVar i) (tCons te tNil))) Γ (fun z => ∃ ns, z = eS ns ∧ ns.length = n ∧ MarksOk ns) :=
  (ev_pool hC hi (ea_cons h ea_nil) ⟨n, rfl, hn⟩).imp fun z ⟨ns, e, ez, ok⟩ => ⟨ns, ez, by
    have e1 : (n : Int) = (ns.length : Nat) := PyData.int.inj (List.head_eq_of_cons_eq e)
    omega, ok⟩
/-- 1 + a draw -/
theorem ev_one {tn : TE} (hC : Pl C p) (hi : Γ[i]? = some (.pol p)) (h : EvD C tn Γ (.int n)) (h1 : 1 ≤ n) (h2 : n ≤ 1000) : Ev C (tOp (rI0 fun i j => .int (i + j)) (tC (.int 1)) (tCall (drawSp C.K) [] E (tCons (tVar i) (tCons tn tNil)))) Γ (fun z => ∃ m : Nat, z = .int m ∧ 1 ≤ m ∧ m ≤ n) :=
  ev_opP ev_int (fun _ _ => ev_draw hC hi h h1 h2) (by
    rintro d e rfl ⟨k, rfl, lk⟩
    exact fun x y G H s hx hy Q q => oo_i (f := fun i j => i + j) x y G H s hx hy Q fun v z G2 H2 e f h => q v z G2 H2 ⟨1 + k, by rw [e]; exact congrArg PyData.int (Int.natCast_add 1 k).symm, by omega, by omega⟩ f h)
theorem ev_namesP {n0 : Nat} (hC : Pl C p) (hi : Γ[i]? = some (.pol p)) (h : Ev C te Γ fun z => ∃ m : Nat, z = .int m ∧ 1 ≤ m ∧ m ≤ n0) (hn : n0 ≤ 20) : Ev C (tCall (poolSp C.K Pre_names R_names) [] E (tCons (tVar i) (tCons te tNil))) Γ (fun z => ∃ ns, z = eS ns ∧ 1 ≤ ns.length ∧ ns.length ≤ n0 ∧ NamesOk ns) :=
  (ev_poolP hC hi (ea_consP h fun _ _ => ea_nil) (fun ds ⟨d, ds', e, ⟨m, em, h1, h2⟩, e2⟩ => ⟨m, by rw [e, em, e2], by omega⟩)).imp fun z ⟨ds, ⟨d, ds', e, ⟨m, em, h1, h2⟩, e2⟩, ns, e3, ez, ok⟩ => ⟨ns, ez, by
    rw [e, em, e2] at e3
    have e1 : (m : Int) = (ns.length : Nat) := PyData.int.inj (List.head_eq_of_cons_eq e3)
    omega, by
    rw [e, em, e2] at e3
    have e1 : (m : Int) = (ns.length : Nat) := PyData.int.inj (List.head_eq_of_cons_eq e3)
    omega, ok⟩
theorem ev_marksP {n0 : Nat} (hC : Pl C p) (hi : Γ[i]? = some (.pol p)) (h : Ev C te Γ fun z => ∃ m : Nat, z = .int m ∧ 1 ≤ m ∧ m ≤ n0) (hn : n0 ≤ 20) : Ev C (tCall (poolSp C.K Pre_names R_marks) [] E (tCons (tVar i) (tCons te tNil))) Γ (fun z => ∃ ns, z = eS ns ∧ 1 ≤ ns.length ∧ ns.length ≤ n0 ∧ MarksOk ns) :=
  (ev_poolP hC hi (ea_consP h fun _ _ => ea_nil) (fun ds ⟨d, ds', e, ⟨m, em, h1, h2⟩, e2⟩ => ⟨m, by rw [e, em, e2], by omega⟩)).imp fun z ⟨ds, ⟨d, ds', e, ⟨m, em, h1, h2⟩, e2⟩, ns, e3, ez, ok⟩ => ⟨ns, ez, by
    rw [e, em, e2] at e3
    have e1 : (m : Int) = (ns.length : Nat) := PyData.int.inj (List.head_eq_of_cons_eq e3)
    omega, by
    rw [e, em, e2] at e3
    have e1 : (m : Int) = (ns.length : Nat) := PyData.int.inj (List.head_eq_of_cons_eq e3)
    omega, ok⟩
end
theorem nd_of_map {α β : Type} {f : α → β} : ∀ {l : List α}, (l.map f).Nodup → l.Nodup
  | [], _ => List.nodup_nil
  | a :: l, h => by
    obtain ⟨h1, h2⟩ := List.nodup_cons.mp h
    exact List.nodup_cons.mpr ⟨fun m => h1 (List.mem_map.mpr ⟨a, m, rfl⟩), nd_of_map h2⟩
theorem row_join {ms : List Str} (h : MarksOk ms) : RowOk (Txt.join Str.empty ms) ms.length := by
  have e : sgn (Txt.join Str.empty ms) = ms := by
    rw [TL.join_eq]
    exact sgn_cat h.1
  refine ⟨by rw [← sgn_len, e], fun c hc => ?_, ?_⟩
  · have hm : (⟨#[c]⟩ : Str) ∈ ms := by
      rw [← e]
      exact List.mem_map.mpr ⟨c, hc, rfl⟩
    obtain ⟨d, ed, hd⟩ := h.1 _ hm
    have : c = d := by
      have := congrArg (fun s : Str => s.cps.toList) ed
      simpa using this
    rw [this]
    exact hd
  · have h2 := h.2
    rw [← e] at h2
    unfold sgn at h2
    exact nd_of_map h2
theorem f2_pairs {α β : Type} {c : α × β → PyData} {Pb : β → Prop} : ∀ {xs : List α} {zs : List PyData}, F2 (fun x z => ∃ b, z = c (x, b) ∧ Pb b) xs zs → ∃ ys : List (α × β), zs = ys.map c ∧ ys.map Prod.fst = xs ∧ ∀ y ∈ ys, Pb y.2
  | _, _, .nil => ⟨[], rfl, rfl, fun y h => (by cases h)⟩
  | _, _, .cons (a := x) ⟨b, e, pb⟩ t => by
    obtain ⟨ys, rfl, hl, h⟩ := f2_pairs t
    refine ⟨(x, b) :: ys, by rw [e]; rfl, by rw [List.map_cons, hl], fun y hy => ?_⟩
    rcases List.mem_cons.mp hy with rfl | hy
    · exact pb
    · exact h y hy
section
variable {P : Program} {w : World} {K : PySem.W.Frag} {mg : Str → Option Value} {base : Heap} {f : Addr} {fd : FuncData}
abbrev N__law_new_names : List Str := ["_law_pool_here", "_law_book_here", "_law_kinds", "_law_dealings", "_law_letters", "_law_dealing"]
abbrev P__law_new_names : List Str := ["_law_pool_here", "_law_book_here"]
theorem sc__law_new_names : FnScope N__law_new_names P__law_new_names (defScope (topS 49)) := ⟨rfl, rfl, rfl, by decide +kernel, rfl, by decide +kernel, by decide +kernel⟩
def Pre_new (ds : List PyData) : Prop := ∃ b : Book, ds = [eB b] ∧ WB b
def eN (ks es ls : List Str) : PyData := .list [eS ks, eS es, eS ls]
def R_new (ds : List PyData) (z : PyData) : Prop := ∃ (b : Book) (ks es ls : List Str), ds = [eB b] ∧ z = eN ks es ls ∧ NOk b ks es ls
theorem ok__law_new_names (T : Tx w K mg) (F : FnP K "_law_new_names" 49 [] f fd) (D_law_names : Kd P w K mg base "_law_names" P__law_names (poolSp K Pre_names R_names) 2) (D_law_marks : Kd P w K mg base "_law_marks" P__law_marks (poolSp K Pre_names R_marks) 2) : FnOk P w K mg base CX0 3 f fd P__law_new_names (poolSp K Pre_new R_new) := by
  have nd := sc__law_new_names.nd
  refine pool_fn F sc__law_new_names (fun ds ⟨_, e, _⟩ => e ▸ rfl) fun cdv A outer s H E hr => ⟨_, (pss_cons (ps_set (i := 2) nd rfl (Or.inl rfl) (pe_df D_law_names (hr.mono (by decide)) (by rfl) (pa_cons (pv 0) (pa_cons (pe_callB (r := fun xs H Q => ∃ x n, xs = [x] ∧ LenV K x H n ∧ Q (.int n) H) call_len (by rfl) T.len (by decide +kernel) (pa_cons (pe_ix (r := rIxT K) ix_tup (pv 1) pe_int (fun _ _ => rfl)) pa_nil)) pa_nil))))
      (pss_cons (ps_set (i := 3) nd rfl (Or.inl rfl) (pe_df D_law_names (hr.mono (by decide)) (by rfl) (pa_cons (pv 0) (pa_cons (pe_callB (r := fun xs H Q => ∃ x n, xs = [x] ∧ LenV K x H n ∧ Q (.int n) H) call_len (by rfl) T.len (by decide +kernel) (pa_cons (pe_ix (r := rIxT K) ix_tup (pv 1) pe_int (fun _ _ => rfl)) pa_nil)) pa_nil))))
      (pss_cons (ps_setLc (i := 4) (own := [("_law_dealing", 5)]) (g := gName 5) (tt := tYes) rfl nd rfl rfl (sw_true rfl rfl rfl (by decide +kernel)) (pi_list (pe_ix (r := rIxT K) ix_tup (pv 1) pe_int (fun _ _ => rfl))) (blkOk_by (N := N__law_new_names) (sc := defScope (topS 49)) (by decide +kernel)) (fun _ _ _ _ _ => (pg_name (i := 5) nd rfl (Or.inl rfl))) (fun _ _ _ _ _ => pts_nil) (fun _ _ _ _ _ => (pe_joinK (K := K) rfl pe_str (pe_df D_law_marks (hr.mono (by decide)) (by rfl) (pa_cons (pv 0) (pa_cons (pe_callB (r := fun xs H Q => ∃ x n, xs = [x] ∧ LenV K x H n ∧ Q (.int n) H) call_len (by rfl) T.len (by decide +kernel) (pa_cons (pe_ix (r := rIxT K) ix_tup (pv 5) pe_int (fun _ _ => rfl)) pa_nil)) pa_nil))))))
      (pss_one (ps_ret (pe_lst (pa_cons (pv 2) (pa_cons (pv 3) (pa_cons (pv 4) pa_nil))))))))), fun G H p hp ds Q hR q => ?_⟩
  obtain ⟨b, rfl, wf⟩ := hR
  have hC : Pl (Pc K G H p hp) p := ⟨rfl, rfl⟩
  have h6 := wf.k6
  have h8 := wf.d8
  refine nx_seq (nx_asg (ev_names (n := b.1.length) hC rfl (EvD.of (ev_cb (ea_cons (ev_op (ev_var rfl) ev_int (oo_ixT rfl)) ea_nil) cb_lenL) (by rw [List.length_map])) (by omega)) ?_)
  rintro d ⟨ks, rfl, lk, ok1⟩
  refine nx_seq (nx_asg (ev_names (n := b.2.length) hC rfl (EvD.of (ev_cb (ea_cons (ev_op (ev_var rfl) ev_int (oo_ixT rfl)) ea_nil) cb_lenL) (by rw [List.length_map])) (by omega)) ?_)
  rintro d ⟨es, rfl, le, ok2⟩
  refine nx_seq (nx_asg (P := fun z => ∃ ls : List Str, z = eS ls ∧ F2 (fun (d : Deal) x => RowOk x d.2.1.length) b.2 ls) ((ev_lcR (xs := b.2) (c := eD) (R := fun d z => ∃ x, z = .str x ∧ RowOk x d.2.1.length) (wk_list (ev_op (ev_var rfl) ev_int (oo_ixT rfl))) (by omega) fun d hd => ⟨_, tg_name (by decide),
    (ev_joinP (Pj := fun ys => ys.length = d.2.1.length ∧ MarksOk ys) ev_str ((ev_marks (n := d.2.1.length) hC rfl (EvD.of (ev_cb (ea_cons (ev_op (ev_var rfl) ev_int (oo_ixT rfl)) ea_nil) cb_lenL) (by rw [List.length_map])) (by have := (wf.ds d hd).l4; omega)).imp fun z h => h) ?_).imp ?_⟩).imp ?_) ?_)
  · rintro ys ⟨hl, hy⟩
    have h1 := sum_le (k := 1) (xs := ys) fun y hm => by rw [let_len (hy.1 y hm)]; exact Nat.le_refl _
    have h2 : (Str.ofString "").length = 0 := by decide +kernel
    have h3 := (wf.ds d hd).l4
    rw [h2]
    omega
  · rintro z ⟨ys, rfl, hl, hy⟩
    exact ⟨_, rfl, hl ▸ row_join hy⟩
  · rintro z ⟨zs, rfl, hF⟩
    have key : ∀ {xs : List Deal} {zs : List PyData}, F2 (fun (d : Deal) z => ∃ x, z = .str x ∧ RowOk x d.2.1.length) xs zs → ∃ ls : List Str, zs = ls.map .str ∧ F2 (fun (d : Deal) x => RowOk x d.2.1.length) xs ls := by
      intro xs zs h
      induction h with
      | nil => exact ⟨[], rfl, .nil⟩
      | cons h t ih =>
        obtain ⟨x, rfl, hx⟩ := h
        obtain ⟨ls, rfl, hl⟩ := ih
        exact ⟨x :: ls, rfl, .cons hx hl⟩
    obtain ⟨ls, rfl, hl⟩ := key hF
    exact ⟨ls, rfl, hl⟩
  rintro d ⟨ls, rfl, hF⟩
  refine nx_outP (ev_lst (ea_cons (ev_var rfl) (ea_cons (ev_var rfl) (ea_cons (ev_var rfl) ea_nil))) (by show 3 ≤ 1000; decide)) (fun z e => ⟨b, ks, es, ls, rfl, e, lk, ok1.1, ok1.2, le, ok2.1, ok2.2, hF.len.symm, fun i d x h1 h2 => ?_⟩) q
  obtain ⟨y, hy, r⟩ := hF.get h1
  rw [h2] at hy
  cases hy
  exact r

abbrev N__law_book : List Str := ["_law_pool_here", "_law_most_kinds", "_law_most_dealings", "_law_names_here", "_law_kinds", "_law_dealings", "_law_name", "_law_marks_here", "_law_letters", "_law_mark"]
abbrev P__law_book : List Str := ["_law_pool_here", "_law_most_kinds", "_law_most_dealings"]
theorem sc__law_book : FnScope N__law_book P__law_book (defScope (topS 46)) := ⟨rfl, rfl, rfl, by decide +kernel, rfl, by decide +kernel, by decide +kernel⟩
def Pre_book (ds : List PyData) : Prop := ∃ m : Nat, ds = [.int 6, .int m] ∧ 1 ≤ m ∧ m ≤ 8
def R_book (_ds : List PyData) (z : PyData) : Prop := ∃ b : Book, z = eB b ∧ WB b
theorem ok__law_book (T : Tx w K mg) (F : FnP K "_law_book" 46 [] f fd) (D_law_draw : Kd P w K mg base "_law_draw" P__law_draw (drawSp K) 1) (D_law_names : Kd P w K mg base "_law_names" P__law_names (poolSp K Pre_names R_names) 2) (D_law_marks : Kd P w K mg base "_law_marks" P__law_marks (poolSp K Pre_names R_marks) 2)
    (D_law_steps : Kd P w K mg base "_law_steps" P__law_steps (poolSp K Pre_steps R_steps) 2) : FnOk P w K mg base CX0 3 f fd P__law_book (poolSp K Pre_book R_book) := by
  have nd := sc__law_book.nd
  refine pool_fn F sc__law_book (fun ds ⟨_, e, _⟩ => e ▸ rfl) fun cdv A outer s H E hr => ⟨_, (pss_cons (ps_set (i := 3) nd rfl (Or.inr rfl) (pe_df D_law_names (hr.mono (by decide)) (by rfl) (pa_cons (pv 0) (pa_cons (pe_op op_add pe_int (pe_df D_law_draw (hr.mono (by decide)) (by rfl) (pa_cons (pv 0) (pa_cons (pv 1) pa_nil)))) pa_nil))))
      (pss_cons (ps_setLc (i := 4) (own := [("_law_name", 6)]) (g := gName 6) (tt := tYes) rfl nd rfl rfl (sw_true rfl rfl rfl (by decide +kernel)) (pi_list (pv 3)) (blkOk_by (N := N__law_book) (sc := defScope (topS 46)) (by decide +kernel)) (fun _ _ _ _ _ => (pg_name (i := 6) nd rfl (Or.inl rfl))) (fun _ _ _ _ _ => pts_nil) (fun _ _ _ _ _ => (pe_tup (pa_cons (pv 6) (pa_cons (pe_cmpR op_gt (pe_df D_law_draw (hr.mono (by decide)) (by rfl) (pa_cons (pv 0) (pa_cons pe_int pa_nil))) pe_int (nomark _)) pa_nil)))))
      (pss_cons (ps_set (i := 5) nd rfl (Or.inl rfl) (pe_lst pa_nil))
      (pss_cons (ps_for PassesOwn.never rfl (pi_list (pe_df D_law_names (hr.mono (by decide)) (by rfl) (pa_cons (pv 0) (pa_cons (pe_op op_add pe_int (pe_df D_law_draw (hr.mono (by decide)) (by rfl) (pa_cons (pv 0) (pa_cons (pv 2) pa_nil)))) pa_nil)))) (pg_name (i := 6) nd rfl (Or.inl rfl)) (pss_cons (ps_set (i := 7) nd rfl (Or.inl rfl) (pe_df D_law_marks (hr.mono (by decide)) (by rfl) (pa_cons (pv 0) (pa_cons (pe_op op_add pe_int (pe_df D_law_draw (hr.mono (by decide)) (by rfl) (pa_cons (pv 0) (pa_cons pe_int pa_nil)))) pa_nil))))
        (pss_cons (ps_setLc (i := 8) (own := [("_law_mark", 9)]) (g := gName 9) (tt := tYes) rfl nd rfl rfl (sw_true rfl rfl rfl (by decide +kernel)) (pi_list (pv 7)) (blkOk_by (N := N__law_book) (sc := defScope (topS 46)) (by decide +kernel)) (fun _ _ _ _ _ => (pg_name (i := 9) nd rfl (Or.inl rfl))) (fun _ _ _ _ _ => pts_nil) (fun _ _ _ _ _ => (pe_tup (pa_cons (pv 9) (pa_cons (pe_ix (r := rIxL K) ix_list (pv 3) (pe_df D_law_draw (hr.mono (by decide)) (by rfl) (pa_cons (pv 0) (pa_cons (pe_callB (r := fun xs H Q => ∃ x n, xs = [x] ∧ LenV K x H n ∧ Q (.int n) H) call_len (by rfl) T.len (by decide +kernel) (pa_cons (pv 3) pa_nil)) pa_nil))) (fun _ _ => rfl)) pa_nil)))))
        (pss_one (ps_expr (pe_bm PySem.F.plainAttrs_list PySem.F.slot_list_append PySem.F.type_list_append mt_append (pv 5) (pa_cons (pe_tup (pa_cons (pv 6) (pa_cons (pv 8) (pa_cons (pe_df D_law_steps (hr.mono (by decide)) (by rfl) (pa_cons (pv 0) (pa_cons (pv 7) pa_nil))) pa_nil)))) pa_nil)))))))
      (pss_one (ps_ret (pe_tup (pa_cons (pv 4) (pa_cons (pv 5) pa_nil))))))))), fun G H p hp ds Q hR q => ?_⟩
  obtain ⟨md, rfl, d1, d8⟩ := hR
  have hC : Pl (Pc K G H p hp) p := ⟨rfl, rfl⟩
  refine nx_seq (nx_asg (ev_namesP (n0 := 6) hC rfl (ev_one (n := 6) hC rfl (ev_var rfl) (by decide) (by decide)) (by decide)) ?_)
  rintro d ⟨nh, rfl, n1, n6, nk⟩
  refine nx_seq (nx_asg (P := fun z => ∃ ks : List (Str × Bool), z = .list (ks.map eK) ∧ ks.map Prod.fst = nh) ((ev_lcR (xs := nh) (c := .str) (R := fun x z => ∃ m : Bool, z = eK (x, m) ∧ True) (wk_list (ev_var rfl)) (by omega) fun x hx => ⟨_, tg_name (by decide),
    (ev_tupP (ea_consP (ev_var rfl) fun _ _ => ea_consP (P := fun z => ∃ m : Bool, z = .bool m) (ev_opP (ev_draw (n := 3) hC rfl ev_int (by decide) (by decide)) (fun _ _ => ev_int) ?_) fun _ _ => ea_nil) ?_).imp ?_⟩).imp ?_) ?_)
  · rintro d e ⟨k, rfl, lk⟩ rfl
    exact fun x y G H s hx hy Q q => oo_b (f := fun i j => decide (j < i)) x y G H s hx hy Q fun v z G2 H2 e f h => q v z G2 H2 ⟨_, e⟩ f h
  · rintro ds ⟨d, ds', rfl, _, d2, ds2, rfl, _, rfl⟩
    show 2 ≤ 1000
    decide
  · rintro z ⟨ds, rfl, d, ds', rfl, rfl, d2, ds2, rfl, ⟨m, rfl⟩, rfl⟩
    exact ⟨m, rfl, trivial⟩
  · rintro z ⟨zs, rfl, hF⟩
    obtain ⟨ks, rfl, h1, _⟩ := f2_pairs hF
    exact ⟨ks, rfl, h1⟩
  rintro d ⟨ks, rfl, ek⟩
  have kl : ks.length = nh.length := by rw [← ek, List.length_map]
  refine nx_seq (nx_own ?_)
  refine nx_seq (nx_for (P := fun z => ∃ ns : List Str, z = ns.map .str ∧ 1 ≤ ns.length ∧ ns.length ≤ md ∧ NamesOk ns) (fun ds i Γ' => ∃ es : List Deal, (es.map Prod.fst).map PyData.str = ds.take i ∧ (∀ e ∈ es, WD nh e) ∧ Γ' = [.pol p, .dat (.int 6), .dat (.int md), .dat (eS nh), .dat (.list (ks.map eK)), .own (es.map eD), .un, .un, .un, .un])
    (wk_listP ((ev_namesP (n0 := md) hC rfl (ev_one (n := md) hC rfl (ev_var rfl) d1 (by omega)) (by omega)).imp fun z ⟨ns, e, r⟩ => ⟨ns.map .str, e, ns, rfl, r⟩)) (.same (.same (.same (.same (.same (.same (.same (.same (.same (.same .nil)))))))))) (fun _ _ => ⟨[], rfl, fun e h => (by cases h), rfl⟩) (fun ds i d Γ' G1 ⟨ns, e, n1', n8', nk'⟩ hd ⟨es, hl, pk, eΓ⟩ => ?_) (fun ds Γ' ⟨ns, e, n1', n8', nk'⟩ ⟨es, hl, pk, eΓ⟩ => ?_))
  · subst e; subst eΓ
    obtain ⟨x, hj, rfl⟩ := map_inv hd
    have hC : Pl ((Pc K G H p hp).from G1) p := ⟨rfl, rfl⟩
    have esl : es.length ≤ 8 := by
      have := congrArg List.length hl
      rw [List.length_map, List.length_map, List.length_take, List.length_map] at this
      omega
    refine ⟨_, [6], tg_name (by decide), ?_⟩
    refine nx_seq (nx_asg (ev_marksP (n0 := 4) hC rfl (ev_one (n := 4) hC rfl ev_int (by decide) (by decide)) (by decide)) ?_)
    rintro d ⟨ms, rfl, m1, m4, mk⟩
    refine nx_seq (nx_asg (P := fun z => ∃ ls : List Pr, z = .list (ls.map eP) ∧ ls.map Prod.fst = ms ∧ ∀ l ∈ ls, l.2 ∈ nh) ((ev_lcR (xs := ms) (c := .str) (R := fun x z => ∃ k : Str, z = eP (x, k) ∧ k ∈ nh) (wk_list (ev_var rfl)) (by omega) fun x hx => ⟨_, tg_name (by decide),
      (ev_tupP (ea_consP (ev_var rfl) fun _ _ => ea_consP (P := fun z => ∃ k, z = .str k ∧ k ∈ nh) (ev_opP (ev_var rfl) (fun _ _ => ev_draw (n := nh.length) hC rfl (EvD.of (ev_cb (ea_cons (ev_var rfl) ea_nil) cb_lenL) (by rw [List.length_map])) n1 (by omega)) ?_) fun _ _ => ea_nil) ?_).imp ?_⟩).imp ?_) ?_)
    · rintro d e rfl ⟨k, rfl, lk⟩
      exact fun x y G H s hx hy Q q => oo_ixM (atI_nat (List.getElem?_eq_getElem lk)) x y G H s hx hy Q fun v z G2 H2 e f h => q v z G2 H2 ⟨_, e, List.getElem_mem lk⟩ f h
    · rintro ds ⟨d, ds', rfl, _, d2, ds2, rfl, _, rfl⟩
      show 2 ≤ 1000
      decide
    · rintro z ⟨ds, rfl, d, ds', rfl, rfl, d2, ds2, rfl, ⟨k, rfl, hk⟩, rfl⟩
      exact ⟨k, rfl, hk⟩
    · rintro z ⟨zs, rfl, hF⟩
      obtain ⟨ls, rfl, h1, h2⟩ := f2_pairs hF
      exact ⟨ls, rfl, h1, h2⟩
    rintro d ⟨ls, rfl, el, hls⟩
    have ll : ls.length = ms.length := by rw [← el, List.length_map]
    refine nx_app (P := fun z => ∃ ps, z = eD (x, ls, ps) ∧ StepsOk ms ps) rfl rfl (by rw [List.length_map]; omega) ((ev_tupP (ea_consP (ev_var rfl) fun _ _ => ea_consP (ev_var rfl) fun _ _ => ea_consP (P := fun z => ∃ ps : List Pr, z = .list (ps.map eP) ∧ StepsOk ms ps)
      ((ev_pool hC rfl (ea_cons (ev_var rfl) ea_nil) ⟨ms, rfl, m1, m4⟩).imp fun z ⟨ms', ps, e, ez, ok⟩ => ⟨ps, ez, (eS_inj (List.head_eq_of_cons_eq e)) ▸ ok⟩) fun _ _ => ea_nil) ?_).imp ?_) ?_
    · rintro ds ⟨d, ds', rfl, _, d2, ds2, rfl, _, d3, ds3, rfl, _, rfl⟩
      show 3 ≤ 1000
      decide
    · rintro z ⟨ds, rfl, d, ds', rfl, rfl, d2, ds2, rfl, rfl, d3, ds3, rfl, ⟨ps, rfl, ok⟩, rfl⟩
      exact ⟨ps, rfl, ok⟩
    · rintro d ⟨ps, rfl, s1, s8, s2, s3⟩
      refine nx_kx ⟨es ++ [(x, ls, ps)], ?_, fun e he => ?_, rfl⟩ ?_
      · rw [List.map_append, List.map_append, hl, take_more (xs := ns.map PyData.str) (x := .str x) (by rw [List.getElem?_map, hj]; rfl)]
        rfl
      · rcases List.mem_append.mp he with h | h
        · exact pk e h
        · rw [List.mem_singleton.mp h]
          refine ⟨nk'.1 x (List.mem_of_getElem? hj), by show 1 ≤ ls.length; omega, by show ls.length ≤ 4; omega, fun q hq => ⟨mk.1 _ ?_, hls q hq⟩, ?_, s1, s8, fun q hq => ?_, fun l hl => ?_⟩
          · rw [← el]
            exact List.mem_map.mpr ⟨q, hq, rfl⟩
          · show (ls.map Prod.fst).Nodup
            rw [el]
            exact mk.2
          · show q.1 ∈ dds ∧ q.2 ∈ ls.map Prod.fst
            rw [el]
            exact s2 q hq
          · have hl : l ∈ ls.map Prod.fst := hl
            rw [el] at hl
            exact s3 l hl
      · rw [List.map_append]
        exact .same (.same (.same (.same (.same (.same (.un (.un (.un (.same .nil)))))))))
  · subst e; subst eΓ
    rw [List.take_length] at hl
    have hn : es.map Prod.fst = ns := eS_inj (congrArg PyData.list hl)
    have ell : es.length = ns.length := by rw [← hn, List.length_map]
    refine nx_freeze (i := 5) rfl rfl ?_
    refine nx_outP (ev_tup (ea_cons (ev_var rfl) (ea_cons (ev_var rfl) ea_nil)) (by show 2 ≤ 1000; decide)) (fun z e => ⟨(ks, es), e, ?_⟩) q
    refine ⟨by show 1 ≤ ks.length; omega, by show ks.length ≤ 6; omega, fun k hk => nk.1 _ ?_, ?_, by show 1 ≤ es.length; omega, by show es.length ≤ 8; omega, fun e he => ?_, ?_⟩
    · rw [← ek]
      exact List.mem_map.mpr ⟨k, hk, rfl⟩
    · show (ks.map Prod.fst).Nodup
      rw [ek]
      exact nk.2
    · show WD (ks.map Prod.fst) e
      rw [ek]
      exact pk e he
    · show (es.map Prod.fst).Nodup
      rw [hn]
      exact nk'.2
end
end SN

/-! SN: an order; all that is right of one book. -/
namespace SN
open PySem L2
def eI (o : List Nat) : PyData := .list (o.map fun (i : Nat) => .int i)
abbrev vI (i : Nat) : V := .int i
theorem erase_map {α β : Type} (g : α → β) : ∀ (xs : List α) (k : Nat), (xs.map g).eraseIdx k = (xs.eraseIdx k).map g
  | [], _ => rfl
  | _ :: _, 0 => rfl
  | x :: xs, k + 1 => by
    show g x :: (xs.map g).eraseIdx k = g x :: (xs.eraseIdx k).map g
    rw [erase_map g xs k]
theorem erase_perm {α : Type} {a : α} : ∀ {xs : List α} {k : Nat}, xs[k]? = some a → (a :: xs.eraseIdx k).Perm xs
  | [], _, h => by simp at h
  | x :: xs, 0, h => by
    cases h
    exact List.Perm.refl _
  | x :: xs, k + 1, h => (List.Perm.swap x a (xs.eraseIdx k)).trans (List.Perm.cons x (erase_perm (xs := xs) (k := k) h))
theorem seq_nat {n k : Nat} (h : k < n) : seqIndex? (k : Int) n = some k := by
  obtain ⟨j, h1, h2, _⟩ := atI_get (atI_nat (xs := List.range n) (j := k) (List.getElem?_range h))
  rw [List.length_range] at h1
  have : j = k := by
    have hj := (List.getElem?_eq_some_iff.mp h2).1
    rw [List.length_range] at hj
    rw [List.getElem?_range hj] at h2
    exact Option.some.inj h2
  rw [h1, this]
section
variable {P : Program} {w : World} {K : PySem.W.Frag} {mg : Str → Option Value} {base : Heap} {f : Addr} {fd : FuncData}
abbrev N__law_order : List Str := ["_law_pool_here", "_law_many", "_law_left", "_law_turn"]
abbrev P__law_order : List Str := ["_law_pool_here", "_law_many"]
theorem sc__law_order : FnScope N__law_order P__law_order (defScope (topS 51)) := ⟨rfl, rfl, rfl, by decide +kernel, rfl, by decide +kernel, by decide +kernel⟩
def R_order (ds : List PyData) (z : PyData) : Prop := ∃ o : List Nat, ds = [.int (o.length : Nat)] ∧ z = eI o ∧ Ord o o.length
theorem ok__law_order (T : Tx w K mg) (F : FnP K "_law_order" 51 [] f fd) (D_law_draw : Kd P w K mg base "_law_draw" P__law_draw (drawSp K) 1) : FnOk P w K mg base CX0 2 f fd P__law_order (poolSp K Pre_names R_order) := by
  have nd := sc__law_order.nd
  refine pool_fn F sc__law_order (fun ds ⟨_, e, _⟩ => e ▸ rfl) fun cdv A outer s H E hr => ⟨_, (pss_cons (ps_set (i := 2) nd rfl (Or.inr rfl) (pe_listRg rfl (by rfl) T.list (prg_1 (by rfl) T.range (pv 1))))
      (pss_one (ps_ret (pe_lc (own := [("_law_turn", 3)]) (g := gName 3) (tt := tYes) rfl nd (pi_range1 rfl T.range (pa_cons (pv 1) pa_nil)) (blkOk_by (N := N__law_order) (sc := defScope (topS 51)) (by decide +kernel)) (fun _ _ _ _ _ => (pg_name (i := 3) nd rfl (Or.inl rfl))) (fun _ _ _ _ _ => pts_nil) (fun _ _ _ _ _ => (pe_bmK (K := K) rfl PySem.F.plainAttrs_list PySem.F.slot_list_pop PySem.F.type_list_pop mt_popAt (pv 2) (pa_cons (pe_df D_law_draw (hr.mono (by decide)) (by rfl) (pa_cons (pv 0) (pa_cons (pe_callB (r := fun xs H Q => ∃ x n, xs = [x] ∧ LenV K x H n ∧ Q (.int n) H) call_len (by rfl) T.len (by decide +kernel) (pa_cons (pv 2) pa_nil)) pa_nil))) pa_nil))))))), fun G0 H0 p hp ds Q hR q => ?_⟩
  obtain ⟨n, rfl, hn⟩ := hR
  have hC : Pl (Pc K G0 H0 p hp) p := ⟨rfl, rfl⟩
  intro σ G H E
  obtain ⟨v, e1, hv⟩ := E.get (i := 1) rfl
  have ev := dp_int hv
  subst ev
  refine ⟨.int n, e1, n, rfl, RgOk.of_le (by decide) (by omega) (by decide) (by omega), fun l hl => ?_⟩
  have erg : rgV 0 (n : Int) = (List.range n).map vI := by
    unfold rgV
    have : ((n : Int) - 0).toNat = n := by omega
    rw [this]
    exact List.map_congr_left fun k _ => congrArg V.int (Int.zero_add _)
  rw [erg]
  show tLc (iRng1 (tCons (tVar 1) tNil)) (gName 3) tYes _ [3] (σ.set 2 (some (.ref l))) (upd H l (.lst ((List.range n).map vI))) Q
  have f0 : Fr M0 G H G (upd H l (.lst ((List.range n).map vI))) := Fr.newU E.fr.gh hl
  have El := (E.step f0).set (i := 2) (s := .adr l) (o := some (.ref l)) rfl
  have l0 : H0 l = none := E.h0 hl
  generalize hH : upd H l (.lst ((List.range n).map vI)) = Hl at El f0
  have hll : Hl l = some (.lst ((List.range n).map vI)) := by rw [← hH]; exact upd_same
  have hgl : G l = none := none_of E.fr.gh hl
  generalize σ.set 2 (some (V.ref l)) = σ2 at El
  clear E e1
  refine wk_range (ea_cons (ev_var (i := 1) rfl) ea_nil) (by omega) σ2 G Hl El _ fun ds J G1 H1 pd f1 i1 W D hD => ?_
  have E1 := El.stepM f1 i1
  obtain ⟨o0, e0, rfl, m0, gp1, _⟩ := E1.sl 0 _ rfl
  obtain ⟨o2, e2, rfl⟩ := E1.sl 2 _ rfl
  have lp : l ≠ p := fun z => by
    obtain ⟨x, y, hh, _⟩ := hp
    rw [← z, l0] at hh
    cases hh
  have hl1 : H1 l = some (.lst ((List.range n).map vI)) := f1.hh l _ lp hll
  have gl1 : G1 l = none := gone f1 hgl hll
  have nDl : D ≠ l := fun z => by
    rw [z, hl1] at hD
    cases hD
  have nDp : D ≠ p := fun z => by
    obtain ⟨x, y, hh, _⟩ := i1
    rw [z, hh] at hD
    cases hD
  have hds : ds.length = n := by
    rw [pd, List.length_map, List.length_range]
  rw [hds] at W
  refine lc_it W (fun i H' => ∃ (G' : Hp) (o xs : List Nat), Fr (fun a => a = p ∨ a = l) G1 H1 G' H' ∧ Pool p H' ∧ G' D = none ∧ G' p = none ∧ H' D = some (.lst (o.map vI)) ∧ H' l = some (.lst (xs.map vI)) ∧ o.length = i ∧ (o ++ xs).length = n ∧ (o ++ xs).Nodup ∧ ∀ k ∈ o ++ xs, k < n)
    ⟨G1, [], List.range n, (Fr.newU f1.gh hD).of0, ?_, none_of f1.gh hD, gp1, upd_same, by rw [upd_ne nDl.symm]; exact hl1, rfl, List.length_range, List.nodup_range, fun k hk => List.mem_range.mp hk⟩ (fun i H' _ ⟨G', _, _, f, _⟩ => f.gg.trans f.gh) ?_ ?_
  · obtain ⟨x, y, hh, r⟩ := i1
    exact ⟨x, y, by rw [upd_ne nDp.symm]; exact hh, r⟩
  · rintro i x H' H'' hi ⟨G', o, xs, fr, pl, gD, gp, hHD, hHl, ho, hox, hnd, hlt⟩ hy
    obtain ⟨G2, f2, hx⟩ := hy _ (List.getElem?_eq_getElem (by rw [hds]; exact hi)) G' fr.gg fr.gh
    have xl : xs.length = n - i := by
      rw [List.length_append] at hox
      omega
    have hl2 : H'' l = some (.lst (xs.map vI)) := f2.hh _ _ (fun z => z) hHl
    have hD2 : H'' D = some (.lst (o.map vI)) := f2.hh _ _ (fun z => z) hHD
    obtain ⟨pa, pb, pp, pr⟩ := pl
    have pl2 : Pool p H'' := ⟨pa, pb, f2.hh _ _ (fun z => z) pp, pr⟩
    have gp2 : G2 p = none := gone f2 gp pp
    have gD2 : G2 D = none := gone f2 gD hHD
    refine ⟨(wipe_mem (by decide)).trans (wipe_wipe [3] [3] fun w h => h), ?_⟩
    unfold tYes
    refine (if_pos rfl).mpr ?_
    have s0 : ((wipe σ2 [3]).set 3 (some x))[0]? = some (some (V.ref p)) := by
      rw [List.getElem?_set_ne (by decide)]
      show ((σ2).set 3 none)[0]? = _
      rw [List.getElem?_set_ne (by decide)]
      exact e0
    have s2 : ((wipe σ2 [3]).set 3 (some x))[2]? = some (some (V.ref l)) := by
      rw [List.getElem?_set_ne (by decide)]
      show ((σ2).set 3 none)[2]? = _
      rw [List.getElem?_set_ne (by decide)]
      exact e2
    refine ⟨.ref l, s2, .inl ⟨rfl, _, .of hl2⟩, .ref p, s0, .ref l, s2, .ref l, (xs.map vI).length, rfl, .inl ⟨_, .of hl2, rfl⟩, ?_⟩
    refine ⟨G2, p, _, [.int (xs.length : Nat)], rfl, f2.gh, gp2, .cons (by rw [List.length_map]; exact .int _) .nil, pl2, ⟨xs.length, rfl, by omega, by omega⟩, fun v z G3 H3 r f3 iv3 hz => ?_⟩
    obtain ⟨m, k, em, ez, lt⟩ := r
    have em : xs.length = m := by
      have := PyData.int.inj (List.head_eq_of_cons_eq em)
      omega
    subst em; subst ez
    rw [dp_int hz]
    have hl3 : H3 l = some (.lst (xs.map vI)) := f3.hh _ _ lp hl2
    have hD3 : H3 D = some (.lst (o.map vI)) := f3.hh _ _ nDp hD2
    refine ⟨l, xs.map vI, k, k, vI xs[k], rfl, rfl, hl3, by omega, by omega, seq_nat (by rw [List.length_map]; exact lt), by rw [List.getElem?_map, List.getElem?_eq_getElem lt]; rfl, ?_⟩
    refine ⟨o.map vI, by rw [upd_ne nDl]; exact hD3, small1000 (by rw [List.length_map]; omega), G3, o ++ [xs[k]], xs.eraseIdx k, ?_, ?_, ?_, ?_, ?_, ?_, by rw [List.length_append, ho]; rfl, ?_⟩
    · have g1 : Fr (fun a => a = p ∨ a = l) G1 H1 G3 H3 := (fr.trans0 f2).trans f3 fun a m => .inl (.inl m)
      have g2 : Fr (fun a => a = p ∨ a = l) G1 H1 G3 (upd H3 l (.lst ((xs.map vI).eraseIdx k))) := g1.put hl3 (gone g1 gl1 hl1) (.inl (.inr rfl))
      have g3 := g2.put (p := D) (o := .lst (o.map vI ++ [vI xs[k]])) (by rw [upd_ne nDl]; exact hD3) (gone f3 gD2 hD2) (.inr hD)
      exact g3
    · obtain ⟨x, y, hh, r⟩ := iv3
      exact ⟨x, y, by rw [upd_ne nDp.symm, upd_ne lp.symm]; exact hh, r⟩
    · exact gone f3 gD2 hD2
    · obtain ⟨x, y, hh, r⟩ := pl2
      exact gone f3 gp2 hh
    · rw [upd_same, List.map_append]
      rfl
    · rw [upd_ne nDl.symm, upd_same, erase_map]
    · have pm : (o ++ [xs[k]] ++ xs.eraseIdx k).Perm (o ++ xs) := by
        rw [List.append_assoc]
        exact List.Perm.append_left o (erase_perm (List.getElem?_eq_getElem lt))
      exact ⟨by rw [pm.length_eq]; exact hox, pm.nodup_iff.mpr hnd, fun j hj => hlt j (pm.mem_iff.mp hj)⟩
  · rintro H' ⟨G', o, xs, fr, pl, gD, gp, hHD, hHl, ho, hox, hnd, hlt⟩
    have x0 : xs = [] := by
      rw [List.length_append] at hox
      exact List.eq_nil_of_length_eq_zero (by omega)
    subst x0
    rw [List.append_nil] at hox hnd hlt
    have t1 : Fr (fun a => a = p) G0 H0 G' H' := E1.fr.trans fr fun a m => by
      rcases m with m | m
      · exact .inl m
      · exact .inr (by rw [m]; exact l0)
    have t2 := t1.keep hHD gD (E1.h0 hD)
    refine q (.ref D) (eI o) _ H' ⟨o, by rw [hox], rfl, ⟨rfl, fun i hi => by rw [hox]; exact hlt i hi, hnd⟩⟩ t2 pl (.lst upd_same ?_)
    have : (o.map fun (i : Nat) => PyData.int i) = (o.map fun (i : Nat) => (i : Int)).map PyData.int := by
      rw [List.map_map]
      rfl
    rw [this, show o.map vI = (o.map fun (i : Nat) => (i : Int)).map V.int by rw [List.map_map]; rfl]
    exact dpa_of_ints
end
end SN

/-! SN: all that is right of one book; the law. -/
namespace SN
open PySem L2
/-- the scope of the comprehension that holds another -/
def scR : Scope := match (defBody (topS 52) : List Stmt)[4]? with
  | some (Stmt.Assign _ (Expr.ListComp _ _ sc _) _) => sc
  | _ => ⟨.function, [], false, false, []⟩
theorem map_inj2 {α β : Type} {f : α → β} (hf : ∀ a b, f a = f b → a = b) : ∀ {l m : List α}, l.map f = m.map f → l = m
  | [], [], _ => rfl
  | [], _ :: _, h => by cases h
  | _ :: _, [], h => by cases h
  | a :: l, b :: m, h => by
    obtain ⟨h1, h2⟩ := List.cons.inj h
    rw [hf a b h1, map_inj2 hf h2]
theorem eK_inj (a b : Str × Bool) (h : eK a = eK b) : a = b := by
  obtain ⟨x, m⟩ := a
  obtain ⟨y, n⟩ := b
  unfold eK at h
  injection h with h
  injection h with h1 h2
  injection h2 with h2 _
  injection h1 with h1
  injection h2 with h2
  subst h1; subst h2
  rfl
theorem eP_inj (a b : Pr) (h : eP a = eP b) : a = b := by
  obtain ⟨x, m⟩ := a
  obtain ⟨y, n⟩ := b
  unfold eP at h
  injection h with h
  injection h with h1 h2
  injection h2 with h2 _
  injection h1 with h1
  injection h2 with h2
  have e1 : x = y := h1
  have e2 : m = n := h2
  subst e1; subst e2
  rfl
theorem eD_inj (a b : Deal) (h : eD a = eD b) : a = b := by
  obtain ⟨x, l, m⟩ := a
  obtain ⟨y, l', m'⟩ := b
  unfold eD at h
  injection h with h
  injection h with h1 h2
  injection h2 with h2 h3
  injection h3 with h3 _
  injection h1 with h1
  injection h2 with h2
  injection h3 with h3
  have e1 : x = y := h1
  have e2 : l = l' := map_inj2 eP_inj h2
  have e3 : m = m' := map_inj2 eP_inj h3
  subst e1; subst e2; subst e3
  rfl
theorem eB_inj {a b : Book} (h : eB a = eB b) : a = b := by
  obtain ⟨x, l⟩ := a
  obtain ⟨y, l'⟩ := b
  unfold eB at h
  injection h with h
  injection h with h1 h2
  injection h2 with h2 _
  injection h1 with h1
  injection h2 with h2
  have e1 : x = y := map_inj2 eK_inj h1
  have e2 : l = l' := map_inj2 eD_inj h2
  subst e1; subst e2
  rfl
theorem pi_listK {X : Cx} {K : PySem.W.Frag} {tg l : Expr} {tl : TE} (hK : X.K = K) (hl : PE X l tl) : PI X tg l (iList K tl) := by
  subst hK
  exact pi_list hl
section
variable {C : Cn} {Γ : List Sl} {te : TE}
/-- where x stands in a list of unlike numbers -/
theorem ev_index {o : List Nat} {n i x : Nat} (hi : Γ[i]? = some (.dat (eI o))) (h : EvD C te Γ (.int x)) (hx : x ∈ o) (hd : o.Nodup) : EvD C (tBM C.K "list" (rIndex C.K) (tVar i) (tCons te tNil)) Γ (.int (o.idxOf x)) := fun σ G H E Q q => by
  obtain ⟨v, e, hv⟩ := E.get hi
  obtain ⟨a, xs, rfl, ha, hk⟩ := dp_list hv
  have ed : (o.map fun (i : Nat) => PyData.int i) = (o.map fun (i : Nat) => (i : Int)).map PyData.int := by
    rw [List.map_map]
    rfl
  rw [ed] at hk
  have ex := dpa_ints hk
  subst ex
  refine ⟨.ref a, e, .inl ⟨rfl, _, .of (E.fr.gh _ _ ha)⟩, ?_⟩
  refine h σ G H E _ fun v d G2 H2 p f iv hv => ?_
  subst p
  have ev := dp_int hv
  subst ev
  have hl := List.idxOf_lt_length_of_mem hx
  have hat : o[o.idxOf x]? = some x := by rw [List.getElem?_eq_getElem hl, List.getElem_idxOf]
  refine ⟨a, _, .int x, o.idxOf x, .int x, rfl, rfl, .of (f.gh _ _ (f.gg _ _ ha)), rfl, flat_ints _, by rw [List.map_map, List.getElem?_map, hat]; rfl, ?_, fun m z lt hz => ?_, q _ _ G2 H2 rfl f iv (.int _)⟩
  · show ((x : Int) == (x : Int)) = true
    exact beq_self_eq_true _
  · rw [List.map_map, List.getElem?_map] at hz
    obtain ⟨y, hy, rfl⟩ := Option.map_eq_some_iff.mp hz
    show ((y : Int) == (x : Int)) = false
    refine beq_eq_false_iff_ne.mpr fun q => ?_
    have q2 : y = x := Int.ofNat.inj q
    subst q2
    have := nd_at hd hy hat
    omega
theorem ev_new {E : XK} {i j : Nat} {p : Addr} {b : Book} (hC : Pl C p) (hi : Γ[i]? = some (.pol p)) (h : EvD C te Γ (eB b)) (wf : WB b) : Ev C (tCall (poolSp C.K Pre_new R_new) [] E (tCons (tVar i) (tCons te tNil))) Γ (fun z => ∃ ks es ls, z = eN ks es ls ∧ NOk b ks es ls) := by
  refine (ev_pool hC hi (ea_cons h ea_nil) ⟨b, rfl, wf⟩).imp fun z ⟨b', ks, es, ls, e, ez, ok⟩ => ⟨ks, es, ls, ez, ?_⟩
  have e1 : eB b = eB b' := List.head_eq_of_cons_eq e
  rw [eB_inj e1]
  exact ok
theorem ev_order {E : XK} {i n : Nat} {p : Addr} (hC : Pl C p) (hi : Γ[i]? = some (.pol p)) (h : EvD C te Γ (.int n)) (hn : n ≤ 20) : Ev C (tCall (poolSp C.K Pre_names R_order) [] E (tCons (tVar i) (tCons te tNil))) Γ (fun z => ∃ o, z = eI o ∧ Ord o n) :=
  (ev_pool hC hi (ea_cons h ea_nil) ⟨n, rfl, hn⟩).imp fun z ⟨o, e, ez, ok⟩ => ⟨o, ez, by
    have e1 : (n : Int) = (o.length : Nat) := PyData.int.inj (List.head_eq_of_cons_eq e)
    have e2 : o.length = n := by omega
    rw [← e2]
    exact ok⟩
end
section
variable {P : Program} {w : World} {K : PySem.W.Frag} {mg : Str → Option Value} {base : Heap} {f : Addr} {fd : FuncData}
abbrev N__law_right : List Str := ["_law_pool_here", "_law_book_here", "_law_one", "_law_other", "_law_there", "_law_letters", "_law_back", "_law_order_here", "_law_put", "_law_book_told", "_law_names_here", "_law_dealing", "_law_mark", "_law_kind", "_law_many", "_law_at"]
abbrev P__law_right : List Str := ["_law_pool_here", "_law_book_here"]
theorem sc__law_right : FnScope N__law_right P__law_right (defScope (topS 52)) := ⟨rfl, rfl, rfl, by decide +kernel, rfl, by decide +kernel, by decide +kernel⟩
def R_right (_ds : List PyData) (z : PyData) : Prop := z = .bool true
theorem ok__law_right (T : Tx w K mg) (F : FnP K "_law_right" 52 [] f fd) (D_law_new_names : Kd P w K mg base "_law_new_names" P__law_new_names (poolSp K Pre_new R_new) 3) (D_law_order : Kd P w K mg base "_law_order" P__law_order (poolSp K Pre_names R_order) 2)
    (Drenamed : Kd P w K mg base "renamed" P_renamed (pureSp K R_renamed) 5) (Dshown : Kd P w K mg base "shown" P_shown (pureSp K R_shown) 1) (Dread : Kd P w K mg base "read" P_read (pureSp K R_read) 5) (Dchosen : Kd P w K mg base "chosen" P_chosen (pureSp K R_chosen) 3)
    (Dlook_at_book : Kd P w K mg base "look_at_book" P_look_at_book (pureSp K R_look_at_book) 4) : FnOk P w K mg base CX0 6 f fd P__law_right (poolSp K Pre_new R_right) := by
  have nd := sc__law_right.nd
  refine pool_fn F sc__law_right (fun ds ⟨_, e, _⟩ => e ▸ rfl) fun cdv A outer s H E hr => ⟨_, (pss_cons (ps_set (i := 2) nd rfl (Or.inr rfl) (pe_df D_law_new_names (hr.mono (by decide)) (by rfl) (pa_cons (pv 0) (pa_cons (pv 1) pa_nil))))
      (pss_cons (ps_set (i := 3) nd rfl (Or.inl rfl) (pe_df D_law_new_names (hr.mono (by decide)) (by rfl) (pa_cons (pv 0) (pa_cons (pv 1) pa_nil))))
      (pss_cons (ps_set (i := 4) nd rfl (Or.inl rfl) (pe_df Drenamed (hr.mono (by decide)) (by rfl) (pa_cons (pv 1) (pa_cons (pe_ix (r := rIxL K) ix_list (pv 2) pe_int (fun _ _ => rfl)) (pa_cons (pe_ix (r := rIxL K) ix_list (pv 2) pe_int (fun _ _ => rfl)) (pa_cons (pe_ix (r := rIxL K) ix_list (pv 2) pe_int (fun _ _ => rfl)) pa_nil))))))
      (pss_cons (ps_if (pt_cmpR (op_neD hr.units) (pe_df Drenamed (hr.mono (by decide)) (by rfl) (pa_cons (pv 4) (pa_cons (pe_ix (r := rIxL K) ix_list (pv 3) pe_int (fun _ _ => rfl)) (pa_cons (pe_ix (r := rIxL K) ix_list (pv 3) pe_int (fun _ _ => rfl)) (pa_cons (pe_ix (r := rIxL K) ix_list (pv 3) pe_int (fun _ _ => rfl)) pa_nil))))) (pe_df Drenamed (hr.mono (by decide)) (by rfl) (pa_cons (pv 1) (pa_cons (pe_ix (r := rIxL K) ix_list (pv 3) pe_int (fun _ _ => rfl)) (pa_cons (pe_ix (r := rIxL K) ix_list (pv 3) pe_int (fun _ _ => rfl)) (pa_cons (pe_ix (r := rIxL K) ix_list (pv 3) pe_int (fun _ _ => rfl)) pa_nil))))) (nomark _)) (pss_one (ps_ret pe_bl)) pss_nil)
      (pss_cons (ps_setLc (i := 5) (own := [("_law_dealing", 11)]) (g := gName 11) (tt := tYes) rfl nd rfl rfl (sw_true rfl rfl rfl (by decide +kernel)) (pi_list (pe_ix (r := rIxT K) ix_tup (pv 1) pe_int (fun _ _ => rfl))) (blkOk_by (N := N__law_right) (sc := defScope (topS 52)) (by decide +kernel)) (fun _ _ _ _ _ => (pg_name (i := 11) nd rfl (Or.inl rfl))) (fun _ _ _ _ _ => pts_nil) (fun _ _ _ _ _ => (pe_joinK (K := K) rfl pe_str (pe_lc (own := [("_law_mark", 12), ("_law_kind", 13)]) (g := gTup K 2 (gCons (gName 12) (gCons (gName 13) (gNil)))) (tt := tYes) rfl nd (pi_listK (K := K) rfl (pe_ix (r := rIxT K) ix_tup (pv 11) pe_int (fun _ _ => rfl))) (blkOk_by (N := N__law_right) (sc := scR) (by decide +kernel)) (fun _ _ _ _ _ => (pg_tup rfl (pgs_cons (pg_name (i := 12) nd rfl (Or.inl rfl)) (pgs_cons (pg_name (i := 13) nd rfl (Or.inl rfl)) pgs_nil)))) (fun _ _ _ _ _ => pts_nil) (fun _ _ _ _ _ => (pv 12))))))
      (pss_cons (ps_set (i := 6) nd rfl (Or.inl rfl) (pe_df Drenamed (hr.mono (by decide)) (by rfl) (pa_cons (pv 4) (pa_cons (pe_lc (own := [("_law_kind", 13), ("_law_many", 14)]) (g := gTup K 2 (gCons (gName 13) (gCons (gName 14) (gNil)))) (tt := tYes) rfl nd (pi_list (pe_ix (r := rIxT K) ix_tup (pv 1) pe_int (fun _ _ => rfl))) (blkOk_by (N := N__law_right) (sc := defScope (topS 52)) (by decide +kernel)) (fun _ _ _ _ _ => (pg_tup rfl (pgs_cons (pg_name (i := 13) nd rfl (Or.inl rfl)) (pgs_cons (pg_name (i := 14) nd rfl (Or.inl rfl)) pgs_nil)))) (fun _ _ _ _ _ => pts_nil) (fun _ _ _ _ _ => (pv 13))) (pa_cons (pe_lc (own := [("_law_dealing", 11)]) (g := gName 11) (tt := tYes) rfl nd (pi_list (pe_ix (r := rIxT K) ix_tup (pv 1) pe_int (fun _ _ => rfl))) (blkOk_by (N := N__law_right) (sc := defScope (topS 52)) (by decide +kernel)) (fun _ _ _ _ _ => (pg_name (i := 11) nd rfl (Or.inl rfl))) (fun _ _ _ _ _ => pts_nil) (fun _ _ _ _ _ => (pe_ix (r := rIxT K) ix_tup (pv 11) pe_int (fun _ _ => rfl)))) (pa_cons (pv 5) pa_nil))))))
      (pss_cons (ps_if (PW.pt (pw_or (pt_cmpR (op_neD hr.units) (pv 6) (pv 1) (nomark _)) (pw_or (pt_cmpR (op_neD hr.units) (pe_df Dread (hr.mono (by decide)) (by rfl) (pa_cons (pe_df Dshown (hr.mono (by decide)) (by rfl) (pa_cons (pv 4) pa_nil)) pa_nil)) (pv 4) (nomark _)) (pw_or1 (pt_cmpR (op_neD hr.units) (pe_df Dread (hr.mono (by decide)) (by rfl) (pa_cons (pe_df Dshown (hr.mono (by decide)) (by rfl) (pa_cons (pv 6) pa_nil)) pa_nil)) (pv 1) (nomark _)))))) (pss_one (ps_ret pe_bl)) pss_nil)
      (pss_cons (ps_set (i := 7) nd rfl (Or.inr rfl) (pe_df D_law_order (hr.mono (by decide)) (by rfl) (pa_cons (pv 0) (pa_cons (pe_callB (r := fun xs H Q => ∃ x n, xs = [x] ∧ LenV K x H n ∧ Q (.int n) H) call_len (by rfl) T.len (by decide +kernel) (pa_cons (pe_ix (r := rIxT K) ix_tup (pv 1) pe_int (fun _ _ => rfl)) pa_nil)) pa_nil))))
      (pss_cons (ps_set (i := 8) nd rfl (Or.inl rfl) (pe_df Dchosen (hr.mono (by decide)) (by rfl) (pa_cons (pv 1) (pa_cons (pv 7) pa_nil))))
      (pss_cons (ps_for PassesOwn.never rfl (pi_list (pe_lst (pa_cons (pv 4) (pa_cons (pv 6) (pa_cons (pv 8) (pa_cons (pe_df Dread (hr.mono (by decide)) (by rfl) (pa_cons (pe_df Dshown (hr.mono (by decide)) (by rfl) (pa_cons (pv 8) pa_nil)) pa_nil)) pa_nil)))))) (pg_name (i := 9) nd rfl (Or.inl rfl)) (pss_one (ps_if (pt_cmpR op_notN (pe_df Dlook_at_book (hr.mono (by decide)) (by rfl) (pa_cons (pv 9) pa_nil)) pe_non (nomark _)) (pss_one (ps_ret pe_bl)) pss_nil)))
      (pss_cons (ps_set (i := 10) nd rfl (Or.inl rfl) (pe_lst (pa_cons (pe_ix (r := rIxL K) ix_list (pv 2) pe_int (fun _ _ => rfl)) (pa_cons (pe_lc (own := [("_law_at", 15)]) (g := gName 15) (tt := tYes) rfl nd (pi_list (pv 7)) (blkOk_by (N := N__law_right) (sc := defScope (topS 52)) (by decide +kernel)) (fun _ _ _ _ _ => (pg_name (i := 15) nd rfl (Or.inl rfl))) (fun _ _ _ _ _ => pts_nil) (fun _ _ _ _ _ => (pe_ix (r := rIxL K) ix_list (pe_ix (r := rIxL K) ix_list (pv 2) pe_int (fun _ _ => rfl)) (pv 15) (fun _ _ => rfl)))) (pa_cons (pe_lc (own := [("_law_at", 15)]) (g := gName 15) (tt := tYes) rfl nd (pi_list (pv 7)) (blkOk_by (N := N__law_right) (sc := defScope (topS 52)) (by decide +kernel)) (fun _ _ _ _ _ => (pg_name (i := 15) nd rfl (Or.inl rfl))) (fun _ _ _ _ _ => pts_nil) (fun _ _ _ _ _ => (pe_ix (r := rIxL K) ix_list (pe_ix (r := rIxL K) ix_list (pv 2) pe_int (fun _ _ => rfl)) (pv 15) (fun _ _ => rfl)))) pa_nil)))))
      (pss_cons (ps_if (pt_cmpR (op_neD hr.units) (pe_df Drenamed (hr.mono (by decide)) (by rfl) (pa_cons (pv 8) (pa_cons (pe_ix (r := rIxL K) ix_list (pv 10) pe_int (fun _ _ => rfl)) (pa_cons (pe_ix (r := rIxL K) ix_list (pv 10) pe_int (fun _ _ => rfl)) (pa_cons (pe_ix (r := rIxL K) ix_list (pv 10) pe_int (fun _ _ => rfl)) pa_nil))))) (pe_df Dchosen (hr.mono (by decide)) (by rfl) (pa_cons (pv 4) (pa_cons (pv 7) pa_nil))) (nomark _)) (pss_one (ps_ret pe_bl)) pss_nil)
      (pss_one (ps_ret (pe_cmpR (op_eqD hr.units) (pe_df Dchosen (hr.mono (by decide)) (by rfl) (pa_cons (pv 8) (pa_cons (pe_lc (own := [("_law_at", 15)]) (g := gName 15) (tt := tYes) rfl nd (pi_range1 rfl T.range (pa_cons (pe_callB (r := fun xs H Q => ∃ x n, xs = [x] ∧ LenV K x H n ∧ Q (.int n) H) call_len (by rfl) T.len (by decide +kernel) (pa_cons (pv 7) pa_nil)) pa_nil)) (blkOk_by (N := N__law_right) (sc := defScope (topS 52)) (by decide +kernel)) (fun _ _ _ _ _ => (pg_name (i := 15) nd rfl (Or.inl rfl))) (fun _ _ _ _ _ => pts_nil) (fun _ _ _ _ _ => (pe_bmK (K := K) (r := rIndex K) rfl PySem.F.plainAttrs_list PySem.F.slot_list_index PySem.F.type_list_index mt_index (pv 7) (pa_cons (pv 15) pa_nil)))) pa_nil))) (pv 1) (nomark _)))))))))))))))), fun G H p hp ds Q hR q => ?_⟩
  obtain ⟨b, rfl, wf⟩ := hR
  have hC : Pl (Pc K G H p hp) p := ⟨rfl, rfl⟩
  have h8 := wf.d8
  have h6 := wf.k6
  refine nx_seq (nx_asg (ev_new (j := 0) hC rfl (ev_var rfl) wf) ?_)
  rintro d ⟨ks, es, ls, rfl, ok⟩
  refine nx_seq (nx_asg (ev_new (j := 0) hC rfl (ev_var rfl) wf) ?_)
  rintro d ⟨ks', es', ls', rfl, ok'⟩
  have wt := ren_wf wf ok
  have okt := nok_ren ok ok'
  have sh : ∀ {b : Book}, WB b → SeqAt.shaped (eB b) = true := fun h => (wb_cb h).sd.shaped (by decide)
  have sq : ∀ {b : Book}, WB b → PyData.eqv (eB b) (eB b) = true := fun h => (wb_cb h).sd.eqv
  refine nx_seq (nx_asgD (d := eB (rename b ks es ls)) (ev_call (ea_cons (ev_var rfl) (ea_cons (ev_op (ev_var rfl) ev_int (oo_ixL rfl)) (ea_cons (ev_op (ev_var rfl) ev_int (oo_ixL rfl)) (ea_cons (ev_op (ev_var rfl) ev_int (oo_ixL rfl)) ea_nil)))) ⟨b, ks, es, ls, rfl, wf, ok, rfl⟩) ?_)
  have r1 := ren_ren wf ok ok'
  have w2 := ren_wf wf ok'
  refine nx_seq (nx_ifF (et_test (EvD.of (ev_op (d := eB (rename b ks' es' ls')) (e := eB (rename b ks' es' ls')) (EvD.of (ev_call (z := eB (rename (rename b ks es ls) ks' es' ls')) (ea_cons (ev_var rfl) (ea_cons (ev_op (ev_var rfl) ev_int (oo_ixL rfl)) (ea_cons (ev_op (ev_var rfl) ev_int (oo_ixL rfl)) (ea_cons (ev_op (ev_var rfl) ev_int (oo_ixL rfl)) ea_nil)))) ⟨_, ks', es', ls', rfl, wt, okt, rfl⟩) (congrArg eB r1))
    (ev_call (ea_cons (ev_var rfl) (ea_cons (ev_op (ev_var rfl) ev_int (oo_ixL rfl)) (ea_cons (ev_op (ev_var rfl) ev_int (oo_ixL rfl)) (ea_cons (ev_op (ev_var rfl) ev_int (oo_ixL rfl)) ea_nil)))) ⟨b, ks', es', ls', rfl, wf, ok', rfl⟩) (oo_neD (sh w2) (sh w2))) (by rw [sq w2]; rfl))) (nx_next ?_))
  have em : Str.ofString "" = Str.empty := by decide +kernel
  have jl : ∀ d ∈ b.2, ((d.2.1.map Prod.fst).map (·.length)).sum + (d.2.1.map Prod.fst).length * Str.empty.length ≤ 100000 := fun d hd => by
    have wd := wf.ds d hd
    have l4 := wd.l4
    have h1 := sum_le (k := 1) (xs := d.2.1.map Prod.fst) fun y hm => by
      obtain ⟨q, hq, rfl⟩ := List.mem_map.mp hm
      rw [let_len (wd.lt q hq).1]
      exact Nat.le_refl _
    have h2 : Str.empty.length = 0 := by decide +kernel
    rw [h2]
    rw [List.length_map] at h1 ⊢
    omega
  refine nx_seq (nx_asgD (ev_lc (xs := b.2) (fun d => .str (ownL d)) (wk_list (ev_op (ev_var rfl) ev_int (oo_ixT rfl))) (by omega) fun d hd => ⟨_, tg_name (by decide), ev_join (a := Str.empty) (ys := d.2.1.map Prod.fst) (EvD.of ev_str (congrArg PyData.str em)) (EvD.of (ev_lc (xs := d.2.1) (fun p => .str p.1) (wk_list (ev_op (ev_var rfl) ev_int (oo_ixT rfl))) (by have := (wf.ds d hd).l4; omega) fun q hq => ⟨_, tg_tup2 (by decide) (by decide), ev_var rfl⟩) (by unfold eS; rw [List.map_map]; rfl)) (jl d hd)⟩) ?_)
  have own := own_ok wf
  have okb := nok_ren ok own
  have rb : rename (rename b ks es ls) (b.1.map Prod.fst) (b.2.map Prod.fst) (b.2.map ownL) = b := (ren_ren wf ok own).trans (ren_own wf)
  refine nx_seq (nx_asgD (d := eB b) (EvD.of (ev_call (z := eB (rename (rename b ks es ls) (b.1.map Prod.fst) (b.2.map Prod.fst) (b.2.map ownL))) (ea_cons (ev_var rfl) (ea_cons (d := eS (b.1.map Prod.fst)) (EvD.of (ev_lc (xs := b.1) (fun k => .str k.1) (wk_list (ev_op (ev_var rfl) ev_int (oo_ixT rfl))) (by omega) fun k hk => ⟨_, tg_tup2 (by decide) (by decide), ev_var rfl⟩) (by unfold eS; rw [List.map_map]; rfl))
    (ea_cons (d := eS (b.2.map Prod.fst)) (EvD.of (ev_lc (xs := b.2) (fun d => .str d.1) (wk_list (ev_op (ev_var rfl) ev_int (oo_ixT rfl))) (by omega) fun d hd => ⟨_, tg_name (by decide), ev_op (ev_var rfl) ev_int (oo_ixT rfl)⟩) (by unfold eS; rw [List.map_map]; rfl)) (ea_cons (d := eS (b.2.map ownL)) (EvD.of (ev_var rfl) (by unfold eS; rw [List.map_map]; rfl)) ea_nil))))
    ⟨_, _, _, _, rfl, wt, okb, rfl⟩) (congrArg eB rb)) ?_)
  have rs : ∀ {Γ : List Sl} {te : TE} {b' : Book}, EvD (Pc K G H p hp) te Γ (eB b') → WB b' → EvD (Pc K G H p hp) (tCall (pureSp K R_read) [] E0 (tCons (tCall (pureSp K R_shown) [] E0 (tCons te tNil)) tNil)) Γ (eB b') := fun h w => ev_call (ea_cons (ev_call (ea_cons h ea_nil) ⟨_, rfl, w, rfl⟩) ea_nil) ⟨_, rfl, w, rfl⟩
  refine nx_seq (nx_ifF (et_orF (et_test (EvD.of (ev_op (ev_var rfl) (ev_var rfl) (oo_neD (sh wf) (sh wf))) (by rw [sq wf]; rfl))) (et_orF (et_test (EvD.of (ev_op (rs (ev_var rfl) wt) (ev_var rfl) (oo_neD (sh wt) (sh wt))) (by rw [sq wt]; rfl)))
    (et_test (EvD.of (ev_op (rs (ev_var rfl) wf) (ev_var rfl) (oo_neD (sh wf) (sh wf))) (by rw [sq wf]; rfl))))) (nx_next ?_))
  refine nx_seq (nx_asg (ev_order (n := b.2.length) hC rfl (EvD.of (ev_cb (ea_cons (ev_op (ev_var rfl) ev_int (oo_ixT rfl)) ea_nil) cb_lenL) (by rw [List.length_map])) (by omega)) ?_)
  rintro d ⟨o, rfl, ho⟩
  have wp := pick_wf wf ho
  refine nx_seq (nx_asgD (d := eB (pick b o)) (ev_call (ea_cons (ev_var rfl) (ea_cons (ev_var rfl) ea_nil)) ⟨b, o, rfl, wf, ho, rfl⟩) ?_)
  refine nx_seq (nx_forD (fun _ => [Sl.pol p, .dat (eB b), .dat (eN ks es ls), .dat (eN ks' es' ls'), .dat (eB (rename b ks es ls)), .un, .dat (eB b), .dat (eI o), .dat (eB (pick b o)), .un, .un, .un, .un, .un, .un, .un])
    (wk_list (ev_lst (ea_cons (ev_var rfl) (ea_cons (ev_var rfl) (ea_cons (ev_var rfl) (ea_cons (rs (ev_var rfl) wp) ea_nil)))) (by show 4 ≤ 1000; decide))) (.same (.same (.same (.same (.same (.un (.same (.same (.same (.same (.same (.same (.same (.same (.same (.same .nil)))))))))))))))) (fun i d G1 hd => ?_) ?_)
  · have hb : ∃ b', d = eB b' ∧ WB b' := by
      have := List.mem_of_getElem? hd
      simp only [List.mem_cons, List.not_mem_nil, or_false] at this
      rcases this with rfl | rfl | rfl | rfl
      · exact ⟨_, rfl, wt⟩
      · exact ⟨_, rfl, wf⟩
      · exact ⟨_, rfl, wp⟩
      · exact ⟨_, rfl, wp⟩
    obtain ⟨b', rfl, wb'⟩ := hb
    refine ⟨_, [9], tg_name (by decide), ?_⟩
    refine nx_ifF (et_test (ev_op (ev_call (z := .none) (ea_cons (ev_var rfl) ea_nil) ⟨b', rfl, wb', rfl⟩) ev_non oo_notN)) (nx_next ?_)
    exact nx_kx rfl (.same (.same (.same (.same (.same (.same (.same (.same (.same (.un (.same (.same (.same (.same (.same (.same .nil))))))))))))))))
  have atE : ∀ (xs : List Str), xs.length = b.2.length → ∀ m ∈ o, atI xs (m : Int) = some (xs.getD m Str.empty) := fun xs hx m hm => by
    have lt := ho.lt m hm
    rw [List.getD_eq_getElem?_getD, List.getElem?_eq_getElem (by omega)]
    exact atI_nat (List.getElem?_eq_getElem (by omega))
  have hol := ho.len
  refine nx_seq (nx_asgD (d := eN ks (at_ es o) (at_ ls o)) (ev_lst (ea_cons (ev_op (ev_var rfl) ev_int (oo_ixL rfl)) (ea_cons (d := eS (at_ es o)) (EvD.of (ev_lc (xs := o) (fun m => .str (es.getD m Str.empty)) (wk_list (ev_var rfl)) (by omega) fun m hm => ⟨_, tg_name (by decide), ev_op (ev_op (ev_var rfl) ev_int (oo_ixL rfl)) (ev_var rfl) (oo_ixM (atE es ok.dl m hm))⟩) (by unfold eS at_; rw [List.map_map]; rfl))
    (ea_cons (d := eS (at_ ls o)) (EvD.of (ev_lc (xs := o) (fun m => .str (ls.getD m Str.empty)) (wk_list (ev_var rfl)) (by omega) fun m hm => ⟨_, tg_name (by decide), ev_op (ev_op (ev_var rfl) ev_int (oo_ixL rfl)) (ev_var rfl) (oo_ixM (atE ls ok.ll m hm))⟩) (by unfold eS at_; rw [List.map_map]; rfl)) ea_nil))) (by show 3 ≤ 1000; decide)) ?_)
  have rp := ren_pick ok ho
  have hot : Ord o (rename b ks es ls).2.length := by rw [ren_len ok]; exact ho
  have wq := pick_wf wt hot
  refine nx_seq (nx_ifF (et_test (EvD.of (ev_op (d := eB (pick (rename b ks es ls) o)) (e := eB (pick (rename b ks es ls) o)) (EvD.of (ev_call (z := eB (rename (pick b o) ks (at_ es o) (at_ ls o))) (ea_cons (ev_var rfl) (ea_cons (ev_op (ev_var rfl) ev_int (oo_ixL rfl)) (ea_cons (ev_op (ev_var rfl) ev_int (oo_ixL rfl)) (ea_cons (ev_op (ev_var rfl) ev_int (oo_ixL rfl)) ea_nil)))) ⟨_, _, _, _, rfl, wp, nok_pick ok ho, rfl⟩) (congrArg eB rp))
    (ev_call (ea_cons (ev_var rfl) (ea_cons (ev_var rfl) ea_nil)) ⟨_, o, rfl, wt, hot, rfl⟩) (oo_neD (sh wq) (sh wq))) (by rw [sq wq]; rfl))) (nx_next ?_))
  have pi := pick_inv ho
  have io : Ord (inv o b.2.length) (pick b o).2.length := by rw [pick_len, hol]; exact inv_ord ho
  refine nx_outP (P := fun z => z = .bool true) (EvD.of (ev_op (d := eB b) (e := eB b) (EvD.of (ev_call (z := eB (pick (pick b o) (inv o b.2.length))) (ea_cons (ev_var rfl) (ea_cons (d := eI (inv o b.2.length)) (EvD.of (ev_lc (xs := List.range b.2.length) (fun m => .int (o.idxOf m)) (wk_range (ea_cons (EvD.of (ev_cb (ea_cons (ev_var rfl) ea_nil) cb_lenL) (by rw [List.length_map, hol])) ea_nil) (by omega)) (by rw [List.length_range]; omega) fun m hm => ⟨_, tg_name (by decide), ev_index (n := 0) rfl (ev_var rfl) (ord_full ho m (List.mem_range.mp hm)) ho.nd⟩) (by unfold eI inv; rw [List.map_map]; rfl)) ea_nil))
    ⟨_, _, rfl, wp, io, rfl⟩) (congrArg eB pi)) (ev_var rfl) (oo_eqD (sh wf) (sh wf))) (by rw [sq wf])) (fun z e => e) q
end
end SN

/-! SN: the pool as it is made; the law. -/
namespace SN
open PySem L2
section
variable {C : Cn} {Γ : List Sl}
theorem gset {σ : St} {H : Hp} {i : Nat} {v : V} {k : St → Hp → Prop} (h : k (σ.set i (some v)) H) : gName i v σ H k := h
theorem nx_at {σ : St} {G H : Hp} {k : St → Hp → Prop} (E : Fm C σ Γ G H) (h : Nx C Γ k) : k σ H := h σ G H E
theorem nx_pickv {i : Nat} {te : TE} {c0 : PyData} {b : Bool} {tt : TT} {nx bk ct : St → Hp → Prop} {rt : VK} (Pv : PyData → Prop) (h : EvT C tt Γ b) (hi : Γ.set i (.dat c0) = Γ) (p0 : Pv c0) (h1 : b = true → ∃ c, Pv c ∧ EvD C te Γ c) (k : ∀ c, Pv c → Nx C (Γ.set i (.dat c)) nx) :
    Nx C Γ (tIfS tt (tAsg te (gName i)) tNext ⟨nx, rt, bk, ct⟩) := nx_if h (fun e => by
    obtain ⟨c, pc, hc⟩ := h1 e
    exact nx_asgD hc (k c pc)) fun _ => nx_next (by
    have := k c0 p0
    rw [hi] at this
    exact this)
theorem ev_neg {i : Int} : EvD C (tUn (rU fun i => .int (-i)) (tC (.int i))) Γ (.int (-i)) := fun σ G H E Q q => ⟨i, rfl, q _ _ G H rfl (Fr.refl E.fr.gh) E.inv (.int _)⟩
end
section
variable {P : Program} {w : World} {K : PySem.W.Frag} {mg : Str → Option Value} {base : Heap} {f : Addr} {fd : FuncData}
/-- the law's list, as it is laid -/
theorem seq_up {G G2 : Hp} {a : Addr} {xs : List V} (e : Same G G2) (h : SqL K G a xs) : SqL K G2 a xs := by
  rcases h with h | h
  · rcases h with h | ⟨o, h⟩
    · exact .inl (.inl (e _ _ h))
    · exact .inl (.inr ⟨o, e _ _ h⟩)
  · exact .inr h
def scrS (K : PySem.W.Frag) (ns : List Int) : Spc where
  ok := fun _ G _ v => ∃ a, v = .ref a ∧ SqL K G a (ns.map V.int)
  step := fun _ _ _ _ _ _ _ _ f ⟨a, e, h⟩ => ⟨a, e, seq_up f.gg h⟩
section
variable {C : Cn} {Γ : List Sl} {ns : List Int} {te : TE}
theorem ev_lenScr {i : Nat} (hi : Γ[i]? = some (.spc (scrS C.K ns))) : EvD C (tCB (fun xs H Q => ∃ x n, xs = [x] ∧ LenV C.K x H n ∧ Q (.int n) H) (tCons (tVar i) tNil)) Γ (.int ns.length) := fun σ G H E Q q => by
  obtain ⟨o, e, v, rfl, a, rfl, h⟩ := E.sl i _ hi
  exact ⟨.ref a, e, .ref a, ns.length, rfl, .inl ⟨_, seq_up E.fr.gh h, by rw [List.length_map]⟩, q _ _ G H rfl (Fr.refl E.fr.gh) E.inv (.int _)⟩
theorem ev_ixScr {i k : Nat} {c : Int} (hi : Γ[i]? = some (.spc (scrS C.K ns))) (h : EvD C te Γ (.int k)) (hc : ns[k]? = some c) : EvD C (tOp (rIxL C.K) (tVar i) te) Γ (.int c) := fun σ G H E Q q => by
  obtain ⟨o, e, v, rfl, a, rfl, hs⟩ := E.sl i _ hi
  refine ⟨.ref a, e, ?_⟩
  refine h σ G H E _ fun v d G2 H2 p f i2 hv => ?_
  subst p
  have ev := dp_int hv
  subst ev
  exact ⟨a, _, k, .int c, rfl, rfl, seq_up (f.gg.trans f.gh) hs, atI_nat (by rw [List.getElem?_map, hc]; rfl), q _ _ G2 H2 rfl f i2 (.int _)⟩
end
/-- a new pool -/
def lpSp (K : PySem.W.Frag) : Sp := fun vs H Q _ => ∃ (G : Hp) (ns : List Int) (k : Nat) (c : Addr), vs = [.ref c, .int k] ∧ Same G H ∧ SqL K G c (ns.map V.int) ∧ k ≤ 100 ∧ ∀ a G2 H2, Fr M0 G H G2 H2 → G2 a = none → H a = none → Pool a H2 → Q (.ref a) H2
abbrev N__law_pool : List Str := ["_law_script", "_law_k", "_law_cell", "_law_size", "_law_mixed"]
abbrev P__law_pool : List Str := ["_law_script", "_law_k"]
theorem sc__law_pool : FnScope N__law_pool P__law_pool (defScope (topS 43)) := ⟨rfl, rfl, rfl, by decide +kernel, rfl, by decide +kernel, by decide +kernel⟩
theorem ok__law_pool (T : Tx w K mg) (F : FnP K "_law_pool" 43 [] f fd) : FnOk P w K mg base CX0 1 f fd P__law_pool (lpSp K) := by
  have nd := sc__law_pool.nd
  refine own_fn F sc__law_pool (fun vs H Q E ⟨_, _, _, _, e, _⟩ => e ▸ rfl) fun cdv A outer s H E hr => ⟨_, (pss_cons (ps_set (i := 2) nd rfl (Or.inl rfl) pe_int)
      (pss_cons (ps_if (pt_cmpR op_lt (pv 1) (pe_callB (r := fun xs H Q => ∃ x n, xs = [x] ∧ LenV K x H n ∧ Q (.int n) H) call_len (by rfl) T.len (by decide +kernel) (pa_cons (pv 0) pa_nil)) (nomark _)) (pss_one (ps_set (i := 2) nd rfl (Or.inl rfl) (pe_ix (r := rIxL K) ix_list (pv 0) (pv 1) (fun _ _ => rfl)))) pss_nil)
      (pss_cons (ps_set (i := 3) nd rfl (Or.inl rfl) (pe_callB (call_max2 rfl) (by rfl) T.max (by decide +kernel) (pa_cons (pv 2) (pa_cons (pe_op op_sub (pe_un un_neg pe_int) (pv 2)) pa_nil))))
      (pss_cons (ps_set (i := 4) nd rfl (Or.inl rfl) (pe_op op_mod (pe_op op_mul (pe_op op_add (pe_op op_add (pe_op op_add (pe_op op_mod (pv 3) pe_int) (pe_op op_mul (pe_op op_mul pe_int (pv 1)) (pv 1))) (pe_op op_mul pe_int (pv 1))) pe_int) pe_int) pe_int))
      (pss_one (ps_ret (pe_lst (pa_cons (pe_op op_mul (pv 3) (pe_callTy call_int1 (by rfl) T.int (by decide +kernel) (pa_cons (pe_cmpR op_ge (pv 3) (pe_op op_pow pe_int pe_int) (nomark _)) pa_nil))) (pa_cons (pv 4) pa_nil))))))))), fun vs H Q ⟨G, ns, k, c, ev, sg, hv, hk, q⟩ => ?_⟩
  subst ev
  have st : Fm (Cp K G H) (start N__law_pool [.ref c, .int k]) [.spc (scrS K ns), .dat (.int k), .un, .un, .un] G H := ⟨Fr.refl sg, trivial, rfl, fun i s e => by
    match i, e with
    | 0, e => cases e; exact ⟨_, rfl, _, rfl, c, rfl, hv⟩
    | 1, e => cases e; exact ⟨_, rfl, _, rfl, .int _⟩
    | 2, e => cases e; exact ⟨_, rfl, trivial⟩
    | 3, e => cases e; exact ⟨_, rfl, trivial⟩
    | 4, e => cases e; exact ⟨_, rfl, trivial⟩
    | n + 5, e => exact nomatch e⟩
  refine nx_at st ?_
  refine nx_seq (nx_asgD ev_int ?_)
  refine nx_seq (nx_pickv (c0 := .int 0) (fun d => ∃ c : Int, d = .int c) (et_test (ev_op (ev_var rfl) (ev_lenScr rfl) (oo_b (f := fun i j => decide (i < j))))) rfl ⟨0, rfl⟩ (fun h => ?_) ?_)
  · have hk2 : k < ns.length := by
      have := of_decide_eq_true h
      omega
    exact ⟨_, ⟨_, rfl⟩, ev_ixScr rfl (ev_var rfl) (List.getElem?_eq_getElem hk2)⟩
  · rintro d ⟨c, rfl⟩
    refine nx_seq (nx_asgD (ev_cb (ea_cons (ev_var rfl) (ea_cons (ev_op (ev_neg (i := 1)) (ev_var rfl) oo_i) ea_nil)) cb_max) ?_)
    have z0 : 0 ≤ (if (-1 - c : Int) > c then (-1 - c) else c) := by
      by_cases h : (-1 - c : Int) > c
      · rw [if_pos h]; omega
      · rw [if_neg h]; omega
    have e0 : (if (-1 - c : Int) > c then (-1 - c) else c) = (if ((fun i j : Int => i - j) (-1) c : Int) > c then ((fun i j : Int => i - j) (-1) c) else c) := rfl
    rw [e0] at z0
    generalize (if ((fun i j : Int => i - j) (-1) c : Int) > c then ((fun i j : Int => i - j) (-1) c) else c) = z at z0
    have m0 : 0 ≤ z % 2147483629 := Int.emod_nonneg _ (by decide)
    refine nx_seq (nx_asgD (ev_op (ev_op (ev_op (ev_op (ev_op (ev_op (ev_var rfl) ev_int (oo_ic (f := fun i j => i % j) (by decide : (0 : Int) < 2147483629))) (ev_op (ev_op ev_int (ev_var rfl) (oo_ic (f := fun i j => i * j) (.inl ⟨by decide, by decide⟩))) (ev_var rfl) (oo_ic (f := fun i j => i * j) (.inr ⟨by omega, by omega⟩))) oo_i)
      (ev_op ev_int (ev_var rfl) (oo_ic (f := fun i j => i * j) (.inl ⟨by decide, by decide⟩))) oo_i) ev_int oo_i) ev_int (oo_ic (f := fun i j => i * j) (.inr ⟨by decide, by decide⟩))) ev_int (oo_ic (f := fun i j => i % j) (by decide : (0 : Int) < 2147483647))) ?_)
    intro σ G2 H2 Em
    refine (ev_op (ev_var (i := 3) rfl) (ev_cb (ea_cons (ev_op (ev_var (i := 3) rfl) (ev_op ev_int ev_int (oo_ic (f := fun i j => i ^ j.toNat) ⟨by decide, by decide, by decide⟩)) (oo_b (f := fun i j => decide (j ≤ i)))) ea_nil) cb_int1b) (oo_ic (f := fun i j => i * j) ?_) : EvD (Cp K G H) _ _ _) σ G2 H2 Em _ fun v d G3 H3 p f3 i3 hv => ?_
    · refine .inr ?_
      generalize decide ((10 : Int) ^ (18 : Int).toNat ≤ z) = bb
      cases bb <;> exact ⟨by decide, by decide⟩
    · subst p
      have ev := dp_int hv
      subst ev
      have E3 := Em.stepM f3 i3
      obtain ⟨v4, e4, h4⟩ := E3.get (i := 4) rfl
      have ev := dp_int h4
      subst ev
      refine ⟨_, e4, by show 2 ≤ sizeLine; decide, fun l hl => ?_⟩
      refine q l G3 _ (E3.fr.trans0 (Fr.newU E3.fr.gh hl)) (none_of E3.fr.gh hl) (E3.h0 hl) ⟨_, _, upd_same, ?_, Int.emod_nonneg _ (by decide), Int.emod_lt_of_pos _ (by decide)⟩
      generalize decide ((10 : Int) ^ (18 : Int).toNat ≤ z) = bb
      cases bb
      · show (0 : Int) ≤ z * 0
        omega
      · show (0 : Int) ≤ z * 1
        omega

abbrev N_law : List Str := ["_law_script", "_law_k", "_law_pool_here"]
abbrev P_law : List Str := ["_law_script"]
theorem sc_law : FnScope N_law P_law (defScope (topS 53)) := ⟨rfl, rfl, rfl, by decide +kernel, rfl, by decide +kernel, by decide +kernel⟩
def lawSp (K : PySem.W.Frag) : Sp := fun vs H Q _ => ∃ (a : Addr) (ns : List Int), vs = [.ref a] ∧ SqL K H a (ns.map V.int) ∧ ∀ H', Q (.bl true) H'
theorem ok_law (T : Tx w K mg) (F : FnP K "law" 53 [] f fd) (D_law_pool : Kd P w K mg base "_law_pool" P__law_pool (lpSp K) 1) (D_law_draw : Kd P w K mg base "_law_draw" P__law_draw (drawSp K) 1) (D_law_book : Kd P w K mg base "_law_book" P__law_book (poolSp K Pre_book R_book) 3)
    (D_law_right : Kd P w K mg base "_law_right" P__law_right (poolSp K Pre_new R_right) 6) : FnOk P w K mg base CX0 7 f fd P_law (lawSp K) := by
  have nd := sc_law.nd
  refine own_fn F sc_law (fun vs H Q E ⟨_, _, e, _⟩ => e ▸ rfl) fun cdv A outer s H E hr => ⟨_, (pss_cons (ps_for PassesOwn.never rfl (pi_range1 rfl T.range (pa_cons (pe_callB (call_max2 rfl) (by rfl) T.max (by decide +kernel) (pa_cons pe_int (pa_cons (pe_callB (call_min2 rfl) (by rfl) T.min (by decide +kernel) (pa_cons pe_int (pa_cons (pe_callB (r := fun xs H Q => ∃ x n, xs = [x] ∧ LenV K x H n ∧ Q (.int n) H) call_len (by rfl) T.len (by decide +kernel) (pa_cons (pv 0) pa_nil)) pa_nil))) pa_nil))) pa_nil)) (pg_name (i := 1) nd rfl (Or.inl rfl)) (pss_cons (ps_set (i := 2) nd rfl (Or.inl rfl) (pe_df D_law_pool (hr.mono (by decide)) (by rfl) (pa_cons (pv 0) (pa_cons (pv 1) pa_nil))))
        (pss_one (ps_if (pt_not (pt_val (pe_df D_law_right (hr.mono (by decide)) (by rfl) (pa_cons (pv 2) (pa_cons (pe_df D_law_book (hr.mono (by decide)) (by rfl) (pa_cons (pv 2) (pa_cons pe_int (pa_cons (pe_ix (r := rIxL K) ix_list (pe_lst (pa_cons pe_int (pa_cons pe_int pa_nil))) (pe_df D_law_draw (hr.mono (by decide)) (by rfl) (pa_cons (pv 2) (pa_cons pe_int pa_nil))) (fun _ _ => rfl)) pa_nil)))) pa_nil))))) (pss_one (ps_ret pe_bl)) pss_nil))))
      (pss_one (ps_ret pe_bl))), fun vs H Q ⟨sc, ns, ev, hsc, q⟩ => ?_⟩
  subst ev
  have st0 : Fm (Cp K H H) (start N_law [.ref sc]) [.spc (scrS K ns), .un, .un] H H := ⟨Fr.refl (Same.refl H), trivial, rfl, fun i s e => by
    match i, e with
    | 0, e => cases e; exact ⟨_, rfl, _, rfl, sc, rfl, hsc⟩
    | 1, e => cases e; exact ⟨_, rfl, trivial⟩
    | 2, e => cases e; exact ⟨_, rfl, trivial⟩
    | n + 3, e => exact nomatch e⟩
  refine nx_at st0 ?_
  obtain ⟨n, hn, en⟩ : ∃ n : Nat, n ≤ 63 ∧ (if (if (ns.length : Int) < 63 then (ns.length : Int) else 63) > 1 then (if (ns.length : Int) < 63 then (ns.length : Int) else 63) else 1) = (n : Int) := by
    generalize ns.length = m
    refine ⟨max 1 (min 63 m), by omega, ?_⟩
    by_cases h1 : (m : Int) < 63
    · rw [if_pos h1]
      by_cases h2 : (m : Int) > 1
      · rw [if_pos h2]; omega
      · rw [if_neg h2]; omega
    · rw [if_neg h1]
      rw [if_pos (by decide)]
      omega
  refine nx_seq (nx_forD (fun _ => [Sl.spc (scrS K ns), .un, .un]) (wk_range (n := n) (ea_cons (EvD.of (ev_cb (ea_cons ev_int (ea_cons (ev_cb (ea_cons ev_int (ea_cons (ev_lenScr rfl) ea_nil)) cb_min) ea_nil)) cb_max) (congrArg PyData.int en)) ea_nil) (by omega)) (.same (.same (.same .nil))) (fun i d G1 hd => ?_) ?_)
  · obtain ⟨k, hi, rfl⟩ := map_inv hd
    have hkn : k < n := List.mem_range.mp (List.mem_of_getElem? hi)
    refine ⟨_, [1], tg_name (by decide), ?_⟩
    intro σ G2 H2 Em
    obtain ⟨o0, e0, v0, rfl, c0, rfl, h0⟩ := Em.sl 0 _ rfl
    obtain ⟨v1, e1, h1⟩ := Em.get (i := 1) rfl
    have ev1 := dp_int h1
    subst ev1
    refine ⟨_, e0, _, e1, G2, ns, k, c0, rfl, Em.fr.gh, h0, by omega, fun l G3 H3 f3 g3 l0 hp => ?_⟩
    have hC : Pl (Pc K G3 H3 l hp) l := ⟨rfl, rfl⟩
    have l00 : H l = none := Em.h0 l0
    have st : Fm (Pc K G3 H3 l hp) (σ.set 2 (some (.ref l))) [.spc (scrS K ns), .un, .pol l] G3 H3 := by
      have E3 := Em.step f3
      refine ⟨Fr.refl f3.gh, hp, by rw [List.length_set, Em.len]; rfl, fun j s ej => ?_⟩
      match j, ej with
      | 0, ej =>
        cases ej
        refine ⟨_, by rw [List.getElem?_set_ne (by decide)]; exact e0, _, rfl, c0, rfl, seq_up f3.gg h0⟩
      | 1, ej =>
        cases ej
        exact ⟨_, by rw [List.getElem?_set_ne (by decide)]; exact e1, trivial⟩
      | 2, ej =>
        cases ej
        obtain ⟨x, y, hh, _⟩ := hp
        exact ⟨_, List.getElem?_set_self (by rw [Em.len]; show 2 < 3; decide), rfl, rfl, g3, _, hh⟩
      | j + 3, ej => exact nomatch ej
    refine gset (nx_at st ?_)
    refine nx_ifF (et_notT (et_B ((ev_poolP (PA := fun ds => ∃ b : Book, ds = [eB b] ∧ WB b) hC rfl ((ea_consP (P := fun z => ∃ b : Book, z = eB b ∧ WB b) ((ev_poolP (PA := fun ds => ∃ m : Nat, ds = [.int 6, .int m] ∧ 1 ≤ m ∧ m ≤ 8) hC rfl
      ((ea_consP ev_int fun _ _ => ea_consP (P := fun z => ∃ m : Nat, z = .int m ∧ 1 ≤ m ∧ m ≤ 8) (ev_opP (ev_lst (ea_cons ev_int (ea_cons ev_int ea_nil)) (by show 2 ≤ 1000; decide)) (fun _ _ => ev_draw (n := 2) hC rfl ev_int (by decide) (by decide)) ?_) fun _ _ => ea_nil).imp ?_) (fun ds h => h)).imp ?_) fun _ _ => ea_nil).imp ?_) (fun ds h => h)).imp ?_))) (nx_next ?_)
    · rintro d e rfl ⟨m, rfl, lm⟩
      have hz : ∃ x : Nat, [PyData.int 8, .int 3][m]? = some (.int x) ∧ 1 ≤ x ∧ x ≤ 8 := by
        have : m = 0 ∨ m = 1 := by omega
        rcases this with rfl | rfl
        · exact ⟨8, rfl, by decide, by decide⟩
        · exact ⟨3, rfl, by decide, by decide⟩
      obtain ⟨x0, hx0, hd0⟩ := hz
      exact fun x y G H s hx hy Q q => oo_ixL (atI_nat hx0) x y G H s hx hy Q fun v z G2 H2 e f h => q v z G2 H2 ⟨x0, e, hd0⟩ f h
    · rintro ds ⟨d, ds', rfl, rfl, d2, ds2, rfl, ⟨m, rfl, hm⟩, rfl⟩
      exact ⟨m, rfl, hm⟩
    · rintro z ⟨ds, _, b, rfl, wb⟩
      exact ⟨b, rfl, wb⟩
    · rintro ds ⟨d, ds', rfl, ⟨b, rfl, wb⟩, rfl⟩
      exact ⟨b, rfl, wb⟩
    · rintro z ⟨ds, _, r⟩
      exact r
    · intro σ4 G4 H4 E4
      obtain ⟨o0', e0', v0', rfl, c0', rfl, h0'⟩ := E4.sl 0 _ rfl
      refine ⟨_, G4, rfl, (Em.fr.trans0 f3).trans E4.fr (fun a m => .inr (by rw [m]; exact l00)), trivial, E4.len, fun j s ej => ?_⟩
      match j, ej with
      | 0, ej =>
        cases ej
        exact ⟨_, e0', _, rfl, c0', rfl, h0'⟩
      | 1, ej =>
        cases ej
        have : 1 < σ4.length := by rw [E4.len]; show 1 < 3; decide
        exact ⟨_, List.getElem?_eq_getElem this, trivial⟩
      | 2, ej =>
        cases ej
        have : 2 < σ4.length := by rw [E4.len]; show 2 < 3; decide
        exact ⟨_, List.getElem?_eq_getElem this, trivial⟩
      | j + 3, ej => exact nomatch ej
  · exact nx_out ev_bl fun v G2 H2 _ hv => by
      rw [dp_bool hv]
      exact q H2
end
end SN

/-! SN: the facts of the top by names, each def's promise, the law. Printed by a program. -/
namespace SN
open PySem L2
section
variable {P : Program} {w : World} {K : PySem.W.Frag} {mg : Str → Option Value} {base : Heap}
abbrev d_is_whole : He.DefD := ⟨("is_whole", none), "is_whole", "is_whole", defArgs (topS 15), defBody (topS 15), defScope (topS 15), [], []⟩
abbrev d_is_letter : He.DefD := ⟨("is_letter", none), "is_letter", "is_letter", defArgs (topS 16), defBody (topS 16), defScope (topS 16), [], []⟩
abbrev d_is_name : He.DefD := ⟨("is_name", none), "is_name", "is_name", defArgs (topS 17), defBody (topS 17), defScope (topS 17), [], []⟩
abbrev d_is_list_of : He.DefD := ⟨("is_list_of", none), "is_list_of", "is_list_of", defArgs (topS 18), defBody (topS 18), defScope (topS 18), [], []⟩
abbrev d_is_pair : He.DefD := ⟨("is_pair", none), "is_pair", "is_pair", defArgs (topS 19), defBody (topS 19), defScope (topS 19), [], []⟩
abbrev d_look_at_kinds : He.DefD := ⟨("look_at_kinds", none), "look_at_kinds", "look_at_kinds", defArgs (topS 20), defBody (topS 20), defScope (topS 20), [], []⟩
abbrev d_look_at_letters : He.DefD := ⟨("look_at_letters", none), "look_at_letters", "look_at_letters", defArgs (topS 21), defBody (topS 21), defScope (topS 21), [], []⟩
abbrev d_look_at_steps : He.DefD := ⟨("look_at_steps", none), "look_at_steps", "look_at_steps", defArgs (topS 22), defBody (topS 22), defScope (topS 22), [], []⟩
abbrev d_look_at_book : He.DefD := ⟨("look_at_book", none), "look_at_book", "look_at_book", defArgs (topS 23), defBody (topS 23), defScope (topS 23), [], []⟩
abbrev d_dealing_copied : He.DefD := ⟨("dealing_copied", none), "dealing_copied", "dealing_copied", defArgs (topS 24), defBody (topS 24), defScope (topS 24), [], []⟩
abbrev d_book_copied : He.DefD := ⟨("book_copied", none), "book_copied", "book_copied", defArgs (topS 25), defBody (topS 25), defScope (topS 25), [], []⟩
abbrev d_are_names : He.DefD := ⟨("are_names", none), "are_names", "are_names", defArgs (topS 27), defBody (topS 27), defScope (topS 27), [], []⟩
abbrev d_is_row_of_letters : He.DefD := ⟨("is_row_of_letters", none), "is_row_of_letters", "is_row_of_letters", defArgs (topS 28), defBody (topS 28), defScope (topS 28), [], []⟩
abbrev d_are_letters : He.DefD := ⟨("are_letters", none), "are_letters", "are_letters", defArgs (topS 29), defBody (topS 29), defScope (topS 29), [], []⟩
abbrev d_look_at_names : He.DefD := ⟨("look_at_names", none), "look_at_names", "look_at_names", defArgs (topS 30), defBody (topS 30), defScope (topS 30), [], []⟩
abbrev d_renamed : He.DefD := ⟨("renamed", none), "renamed", "renamed", defArgs (topS 31), defBody (topS 31), defScope (topS 31), [.non, .non, .non], []⟩
abbrev d_chosen : He.DefD := ⟨("chosen", none), "chosen", "chosen", defArgs (topS 32), defBody (topS 32), defScope (topS 32), [], []⟩
abbrev d_shown : He.DefD := ⟨("shown", none), "shown", "shown", defArgs (topS 35), defBody (topS 35), defScope (topS 35), [], []⟩
abbrev d_read_letter : He.DefD := ⟨("read_letter", none), "read_letter", "read_letter", defArgs (topS 36), defBody (topS 36), defScope (topS 36), [], []⟩
abbrev d_read_kind : He.DefD := ⟨("read_kind", none), "read_kind", "read_kind", defArgs (topS 37), defBody (topS 37), defScope (topS 37), [], []⟩
abbrev d_read_deal : He.DefD := ⟨("read_deal", none), "read_deal", "read_deal", defArgs (topS 38), defBody (topS 38), defScope (topS 38), [], []⟩
abbrev d_read_step : He.DefD := ⟨("read_step", none), "read_step", "read_step", defArgs (topS 39), defBody (topS 39), defScope (topS 39), [], []⟩
abbrev d_read_row : He.DefD := ⟨("read_row", none), "read_row", "read_row", defArgs (topS 40), defBody (topS 40), defScope (topS 40), [], []⟩
abbrev d_read : He.DefD := ⟨("read", none), "read", "read", defArgs (topS 41), defBody (topS 41), defScope (topS 41), [], []⟩
abbrev d__law_pool : He.DefD := ⟨("_law_pool", none), "_law_pool", "_law_pool", defArgs (topS 43), defBody (topS 43), defScope (topS 43), [], []⟩
abbrev d__law_draw : He.DefD := ⟨("_law_draw", none), "_law_draw", "_law_draw", defArgs (topS 44), defBody (topS 44), defScope (topS 44), [], []⟩
abbrev d__law_names : He.DefD := ⟨("_law_names", none), "_law_names", "_law_names", defArgs (topS 45), defBody (topS 45), defScope (topS 45), [], []⟩
abbrev d__law_book : He.DefD := ⟨("_law_book", none), "_law_book", "_law_book", defArgs (topS 46), defBody (topS 46), defScope (topS 46), [], []⟩
abbrev d__law_marks : He.DefD := ⟨("_law_marks", none), "_law_marks", "_law_marks", defArgs (topS 47), defBody (topS 47), defScope (topS 47), [], []⟩
abbrev d__law_steps : He.DefD := ⟨("_law_steps", none), "_law_steps", "_law_steps", defArgs (topS 48), defBody (topS 48), defScope (topS 48), [], []⟩
abbrev d__law_new_names : He.DefD := ⟨("_law_new_names", none), "_law_new_names", "_law_new_names", defArgs (topS 49), defBody (topS 49), defScope (topS 49), [], []⟩
abbrev d__law_order : He.DefD := ⟨("_law_order", none), "_law_order", "_law_order", defArgs (topS 51), defBody (topS 51), defScope (topS 51), [], []⟩
abbrev d__law_right : He.DefD := ⟨("_law_right", none), "_law_right", "_law_right", defArgs (topS 52), defBody (topS 52), defScope (topS 52), [], []⟩
abbrev d_law : He.DefD := ⟨("law", none), "law", "law", defArgs (topS 53), defBody (topS 53), defScope (topS 53), [], []⟩
def fnL : List He.DefD := [d_is_whole, d_is_letter, d_is_name, d_is_list_of, d_is_pair, d_look_at_kinds, d_look_at_letters, d_look_at_steps, d_look_at_book, d_dealing_copied, d_book_copied, d_are_names, d_is_row_of_letters, d_are_letters, d_look_at_names, d_renamed, d_chosen, d_shown, d_read_letter, d_read_kind, d_read_deal, d_read_step, d_read_row, d_read, d__law_pool, d__law_draw, d__law_names, d__law_book, d__law_marks, d__law_steps, d__law_new_names, d__law_order, d__law_right, d_law]
def faL : List He.Fa := [.free "isinstance", .free "len", .free "all", .free "enumerate", .free "zip", .free "dict", .free "list", .free "set", .free "int", .free "str", .free "bool", .free "tuple", .free "range", .free "max", .free "min", .str "SIGNS" sAlpha, .int "MOST_SIGNS" 8, .int "MOST_KINDS" 6, .int "MOST_DEALINGS" 8, .int "MOST_LETTERS" 4, .int "MOST_STEPS" 8, .glo "DEEDS", .glo "MANY"]
def fbL : List He.Fa := [.glo "is_whole", .glo "is_letter", .glo "is_name", .glo "is_list_of", .glo "is_pair", .glo "look_at_kinds", .glo "look_at_letters", .glo "look_at_steps", .glo "look_at_book", .glo "dealing_copied", .glo "book_copied", .glo "are_names", .glo "is_row_of_letters", .glo "are_letters", .glo "look_at_names", .glo "renamed", .glo "chosen", .glo "shown", .glo "read_letter", .glo "read_kind", .glo "read_deal", .glo "read_step", .glo "read_row", .glo "read", .glo "_law_pool", .glo "_law_draw", .glo "_law_names", .glo "_law_book", .glo "_law_marks", .glo "_law_steps", .glo "_law_new_names", .glo "_law_order", .glo "_law_right", .glo "law"]
def tsL : List He.Tab := [(fun K => He.ga K "MANY", [sMany, sOne])]
def dvDeeds : List He.Dv := [.str sRead, .str sWrite, .str sAsk]
def kvMany : List (Str × He.Dv) := [(sMany, .bl true), (sOne, .bl false)]
/-- what is looked at behind the top -/
def look_ (K : PySem.W.Frag) : He.AlT × Bool := (He.obsT (faL ++ fbL) fnL tsL K, He.tupB K "DEEDS" dvDeeds && He.valsB K (He.ga K "MANY") kvMany)
def told (w : World) : He.AlT × Bool := (He.valT fnL tsL w, true)
def hkL : PySem.W.Hook where
  α := He.AlT × Bool
  obs := fun s => look_ (He.frG s.heap.get? (He.asD s.heap.get? 4))
  val := told
  says := fun w h => ∃ K : PySem.W.Frag, K.In h ∧ look_ K = told w
  of := fun _ _ e => ⟨_, He.frG_in, e⟩
  keeps := fun _ _ _ ⟨K, hK, c⟩ k => ⟨K, PySem.W.Frag.In.keeps hK k, c⟩
def obL (s : PySem.W.SharedT) : He.AlT × Bool := look_ (He.frG (HandSHeadRun.getT s) (He.asD (HandSHeadRun.getT s) 4))
theorem obL_eq (s : PySem.W.SharedT) : obL s = hkL.obs s.abs := by
  have e : HandSHeadRun.getT s = s.abs.heap.get? := funext (HandSHeadRun.getT_eq s)
  unfold obL
  rw [e]
  rfl
abbrev rowL : PySem.W.OpenRow := PySem.W.OpenLaw.row PySem.Challenge.rw_snapsure_k11_whole_named_there_and_back
def loose1 : List Str := ["SnapError", "BookError", "NoBook", "NoText", "NoNames", "NoPart", "SIGNS", "DEEDS", "MOST_SIGNS", "MOST_KINDS", "MOST_DEALINGS", "MOST_LETTERS", "MOST_STEPS", "is_whole", "is_letter", "is_name", "is_list_of", "is_pair", "look_at_kinds", "look_at_letters", "look_at_steps", "look_at_book", "dealing_copied", "book_copied"]
def loose2 : List Str := ["are_names", "is_row_of_letters", "are_letters", "look_at_names", "renamed", "chosen", "MANY", "shown", "read_letter", "read_kind", "read_deal", "read_step", "read_row", "read", "_law_pool", "_law_draw", "_law_names", "_law_book", "_law_marks", "_law_steps", "_law_new_names", "_law_called", "_law_order", "_law_right"]
theorem runF (w : World) : HandSHeadRun.RunEq rowL (PySem.W.view rowL.prog [53]) hkL obL 3200 (loose1 ++ loose2) (w.withFollow "special-get-raises" false) := by
  intro os
  kernel_rfl
theorem runT (w : World) : HandSHeadRun.RunEq rowL (PySem.W.view rowL.prog [53]) hkL obL 3200 (loose1 ++ loose2) (w.withFollow "special-get-raises" true) := by
  intro os
  kernel_rfl
theorem runL (w : World) : HandSHeadRun.RunEq rowL (PySem.W.view rowL.prog [53]) hkL obL 3200 (loose1 ++ loose2) w := PySem.W.byRow2 "special-get-raises" (P := fun w => HandSHeadRun.RunEq rowL (PySem.W.view rowL.prog [53]) hkL obL 3200 (loose1 ++ loose2) w) runF runT w
section
variable {h : Heap}
theorem factL (c : look_ K = told w) (i : Nat) {f : He.Fa} (e : (faL ++ fbL)[i]? = some f := by rfl) : f.ok K = true := He.SaysD.fact (He.SaysT.d (fn := fnL) (congrArg Prod.fst c)) i e
theorem defL (c : look_ K = told w) (i : Nat) {d : He.DefD} (e : fnL[i]? = some d := by rfl) : ∃ fd, FunD K d.name d.qual d.params d.body d.scope (d.dvs K) (d.kws K) (He.fAd K d.at_) fd := He.SaysD.def_ (He.SaysT.d (fn := fnL) (congrArg Prod.fst c)) i e
theorem top_facts (X : K.In h) (G : h.Ns mainGlobals mg) (c : look_ K = told w) : Tx w K mg where
  isinstance := He.free_ok X G (factL c 0)
  len := He.free_ok X G (factL c 1)
  all := He.free_ok X G (factL c 2)
  enumerate := He.free_ok X G (factL c 3)
  zip := He.free_ok X G (factL c 4)
  dict := He.free_ok X G (factL c 5)
  list := He.free_ok X G (factL c 6)
  set := He.free_ok X G (factL c 7)
  int := He.free_ok X G (factL c 8)
  str := He.free_ok X G (factL c 9)
  bool := He.free_ok X G (factL c 10)
  tuple := He.free_ok X G (factL c 11)
  range := He.free_ok X G (factL c 12)
  max := He.free_ok X G (factL c 13)
  min := He.free_ok X G (factL c 14)
  gSIGNS := He.str_ok X G (factL c 15)
  gMOST_SIGNS := He.int_ok X G (factL c 16)
  gMOST_KINDS := He.int_ok X G (factL c 17)
  gMOST_DEALINGS := He.int_ok X G (factL c 18)
  gMOST_LETTERS := He.int_ok X G (factL c 19)
  gMOST_STEPS := He.int_ok X G (factL c 20)
  gDEEDS := ⟨_, He.glo_ok X G (factL c 21), fun H => He.tupB_ok (vs := dvDeeds) (He.ba (congrArg Prod.snd c)).1 H⟩
  gMANY := by
    obtain ⟨es, n, h1, h2, h3⟩ := He.SaysT.tab (congrArg Prod.fst c) 0 (t := (fun K => He.ga K "MANY", [sMany, sOne])) rfl
    have hv := (He.ba (show (He.tupB K "DEEDS" dvDeeds && He.valsB K (He.ga K "MANY") kvMany) = true from congrArg Prod.snd c)).2
    obtain ⟨u1, a1, b1⟩ := He.valsB_ok hv (q := (sMany, .bl true)) (List.mem_cons_self ..)
    obtain ⟨u2, a2, b2⟩ := He.valsB_ok hv (q := (sOne, .bl false)) (List.mem_cons_of_mem _ (List.mem_cons_self ..))
    exact ⟨_, He.glo_ok X G (factL c 22), ⟨es, n, u1, h1, h2, a1, b1⟩, ⟨es, n, u2, h1, h2, a2, b2⟩⟩
theorem law_facts (X : K.In h) (G : h.Ns mainGlobals mg) (c : look_ K = told w) : ∃ fd : FuncData, mg ("law" : Str) = some (.ref (He.fAd K ("law", none))) ∧ (∀ (s : Shared) (v : Value), BindsTo s fd ⟨[v], []⟩ [("_law_script", v)]) ∧
    ∀ base : Heap, FnOk P w K mg base CX0 7 (He.fAd K ("law", none)) fd P_law (lawSp K) := by
  have T := top_facts X G c
  obtain ⟨fd, F⟩ := defL c 33 (d := d_law) rfl
  obtain ⟨fd__law_pool, F__law_pool⟩ := defL c 24 (d := d__law_pool) rfl
  obtain ⟨fd__law_draw, F__law_draw⟩ := defL c 25 (d := d__law_draw) rfl
  obtain ⟨fd__law_names, F__law_names⟩ := defL c 26 (d := d__law_names) rfl
  obtain ⟨fd__law_marks, F__law_marks⟩ := defL c 28 (d := d__law_marks) rfl
  obtain ⟨fd__law_steps, F__law_steps⟩ := defL c 29 (d := d__law_steps) rfl
  obtain ⟨fd__law_book, F__law_book⟩ := defL c 27 (d := d__law_book) rfl
  obtain ⟨fd__law_new_names, F__law_new_names⟩ := defL c 30 (d := d__law_new_names) rfl
  obtain ⟨fd__law_order, F__law_order⟩ := defL c 31 (d := d__law_order) rfl
  obtain ⟨fd_is_letter, F_is_letter⟩ := defL c 1 (d := d_is_letter) rfl
  obtain ⟨fd_is_name, F_is_name⟩ := defL c 2 (d := d_is_name) rfl
  obtain ⟨fd_are_names, F_are_names⟩ := defL c 11 (d := d_are_names) rfl
  obtain ⟨fd_is_row_of_letters, F_is_row_of_letters⟩ := defL c 12 (d := d_is_row_of_letters) rfl
  obtain ⟨fd_are_letters, F_are_letters⟩ := defL c 13 (d := d_are_letters) rfl
  obtain ⟨fd_look_at_names, F_look_at_names⟩ := defL c 14 (d := d_look_at_names) rfl
  obtain ⟨fd_renamed, F_renamed⟩ := defL c 15 (d := d_renamed) rfl
  obtain ⟨fd_shown, F_shown⟩ := defL c 17 (d := d_shown) rfl
  obtain ⟨fd_read_kind, F_read_kind⟩ := defL c 19 (d := d_read_kind) rfl
  obtain ⟨fd_read_letter, F_read_letter⟩ := defL c 18 (d := d_read_letter) rfl
  obtain ⟨fd_read_deal, F_read_deal⟩ := defL c 20 (d := d_read_deal) rfl
  obtain ⟨fd_read_step, F_read_step⟩ := defL c 21 (d := d_read_step) rfl
  obtain ⟨fd_read_row, F_read_row⟩ := defL c 22 (d := d_read_row) rfl
  obtain ⟨fd_is_list_of, F_is_list_of⟩ := defL c 3 (d := d_is_list_of) rfl
  obtain ⟨fd_is_pair, F_is_pair⟩ := defL c 4 (d := d_is_pair) rfl
  obtain ⟨fd_look_at_kinds, F_look_at_kinds⟩ := defL c 5 (d := d_look_at_kinds) rfl
  obtain ⟨fd_look_at_letters, F_look_at_letters⟩ := defL c 6 (d := d_look_at_letters) rfl
  obtain ⟨fd_look_at_steps, F_look_at_steps⟩ := defL c 7 (d := d_look_at_steps) rfl
  obtain ⟨fd_look_at_book, F_look_at_book⟩ := defL c 8 (d := d_look_at_book) rfl
  obtain ⟨fd_read, F_read⟩ := defL c 23 (d := d_read) rfl
  obtain ⟨fd_is_whole, F_is_whole⟩ := defL c 0 (d := d_is_whole) rfl
  obtain ⟨fd_dealing_copied, F_dealing_copied⟩ := defL c 9 (d := d_dealing_copied) rfl
  obtain ⟨fd_book_copied, F_book_copied⟩ := defL c 10 (d := d_book_copied) rfl
  obtain ⟨fd_chosen, F_chosen⟩ := defL c 16 (d := d_chosen) rfl
  obtain ⟨fd__law_right, F__law_right⟩ := defL c 32 (d := d__law_right) rfl
  refine ⟨fd, He.glo_ok X G (factL c 56 (f := .glo "law") rfl), fun s v => FunD.bindsA (ps := P_law) F (fun _ _ _ _ _ _ us hl => match us, hl with | [_], _ => rfl) s [v] rfl, fun base => ?_⟩
  have D__law_pool : Kd P w K mg base "_law_pool" P__law_pool (lpSp K) 1 := ⟨_, _, He.glo_ok X G (factL c 47 (f := .glo "_law_pool") rfl), F__law_pool.kp, (FunD.bindsN (ps := P__law_pool) F__law_pool fun _ _ _ _ _ _ us hl => match us, hl with | [_, _], _ => rfl), ok__law_pool T F__law_pool⟩
  have D__law_draw : Kd P w K mg base "_law_draw" P__law_draw (drawSp K) 1 := ⟨_, _, He.glo_ok X G (factL c 48 (f := .glo "_law_draw") rfl), F__law_draw.kp, (FunD.bindsN (ps := P__law_draw) F__law_draw fun _ _ _ _ _ _ us hl => match us, hl with | [_, _], _ => rfl), ok__law_draw T F__law_draw⟩
  have D__law_names : Kd P w K mg base "_law_names" P__law_names (poolSp K Pre_names R_names) 2 := ⟨_, _, He.glo_ok X G (factL c 49 (f := .glo "_law_names") rfl), F__law_names.kp, (FunD.bindsN (ps := P__law_names) F__law_names fun _ _ _ _ _ _ us hl => match us, hl with | [_, _], _ => rfl), ok__law_names T F__law_names D__law_draw⟩
  have D__law_marks : Kd P w K mg base "_law_marks" P__law_marks (poolSp K Pre_names R_marks) 2 := ⟨_, _, He.glo_ok X G (factL c 51 (f := .glo "_law_marks") rfl), F__law_marks.kp, (FunD.bindsN (ps := P__law_marks) F__law_marks fun _ _ _ _ _ _ us hl => match us, hl with | [_, _], _ => rfl), ok__law_marks T F__law_marks D__law_draw⟩
  have D__law_steps : Kd P w K mg base "_law_steps" P__law_steps (poolSp K Pre_steps R_steps) 2 := ⟨_, _, He.glo_ok X G (factL c 52 (f := .glo "_law_steps") rfl), F__law_steps.kp, (FunD.bindsN (ps := P__law_steps) F__law_steps fun _ _ _ _ _ _ us hl => match us, hl with | [_, _], _ => rfl), ok__law_steps T F__law_steps D__law_draw⟩
  have D__law_book : Kd P w K mg base "_law_book" P__law_book (poolSp K Pre_book R_book) 3 := ⟨_, _, He.glo_ok X G (factL c 50 (f := .glo "_law_book") rfl), F__law_book.kp, (FunD.bindsN (ps := P__law_book) F__law_book fun _ _ _ _ _ _ us hl => match us, hl with | [_, _, _], _ => rfl), ok__law_book T F__law_book D__law_draw D__law_names D__law_marks D__law_steps⟩
  have D__law_new_names : Kd P w K mg base "_law_new_names" P__law_new_names (poolSp K Pre_new R_new) 3 := ⟨_, _, He.glo_ok X G (factL c 53 (f := .glo "_law_new_names") rfl), F__law_new_names.kp, (FunD.bindsN (ps := P__law_new_names) F__law_new_names fun _ _ _ _ _ _ us hl => match us, hl with | [_, _], _ => rfl), ok__law_new_names T F__law_new_names D__law_names D__law_marks⟩
  have D__law_order : Kd P w K mg base "_law_order" P__law_order (poolSp K Pre_names R_order) 2 := ⟨_, _, He.glo_ok X G (factL c 54 (f := .glo "_law_order") rfl), F__law_order.kp, (FunD.bindsN (ps := P__law_order) F__law_order fun _ _ _ _ _ _ us hl => match us, hl with | [_, _], _ => rfl), ok__law_order T F__law_order D__law_draw⟩
  have D_is_letter : Kd P w K mg base "is_letter" P_is_letter (pureSp K R_is_letter) 1 := ⟨_, _, He.glo_ok X G (factL c 24 (f := .glo "is_letter") rfl), F_is_letter.kp, (FunD.bindsN (ps := P_is_letter) F_is_letter fun _ _ _ _ _ _ us hl => match us, hl with | [_], _ => rfl), ok_is_letter T F_is_letter⟩
  have D_is_name : Kd P w K mg base "is_name" P_is_name (pureSp K R_is_name) 2 := ⟨_, _, He.glo_ok X G (factL c 25 (f := .glo "is_name") rfl), F_is_name.kp, (FunD.bindsN (ps := P_is_name) F_is_name fun _ _ _ _ _ _ us hl => match us, hl with | [_], _ => rfl), ok_is_name T F_is_name D_is_letter⟩
  have D_are_names : Kd P w K mg base "are_names" P_are_names (pureSp K R_are_names) 3 := ⟨_, _, He.glo_ok X G (factL c 34 (f := .glo "are_names") rfl), F_are_names.kp, (FunD.bindsN (ps := P_are_names) F_are_names fun _ _ _ _ _ _ us hl => match us, hl with | [_, _], _ => rfl), ok_are_names T F_are_names D_is_name⟩
  have D_is_row_of_letters : Kd P w K mg base "is_row_of_letters" P_is_row_of_letters (pureSp K R_is_row_of_letters) 2 := ⟨_, _, He.glo_ok X G (factL c 35 (f := .glo "is_row_of_letters") rfl), F_is_row_of_letters.kp, (FunD.bindsN (ps := P_is_row_of_letters) F_is_row_of_letters fun _ _ _ _ _ _ us hl => match us, hl with | [_, _], _ => rfl), ok_is_row_of_letters T F_is_row_of_letters D_is_letter⟩
  have D_are_letters : Kd P w K mg base "are_letters" P_are_letters (pureSp K R_are_letters) 3 := ⟨_, _, He.glo_ok X G (factL c 36 (f := .glo "are_letters") rfl), F_are_letters.kp, (FunD.bindsN (ps := P_are_letters) F_are_letters fun _ _ _ _ _ _ us hl => match us, hl with | [_, _], _ => rfl), ok_are_letters T F_are_letters D_is_row_of_letters⟩
  have D_look_at_names : Kd P w K mg base "look_at_names" P_look_at_names (pureSp K R_look_at_names) 4 := ⟨_, _, He.glo_ok X G (factL c 37 (f := .glo "look_at_names") rfl), F_look_at_names.kp, (FunD.bindsN (ps := P_look_at_names) F_look_at_names fun _ _ _ _ _ _ us hl => match us, hl with | [_, _, _, _], _ => rfl), ok_look_at_names T F_look_at_names D_are_names D_are_letters⟩
  have D_renamed : Kd P w K mg base "renamed" P_renamed (pureSp K R_renamed) 5 := ⟨_, _, He.glo_ok X G (factL c 38 (f := .glo "renamed") rfl), F_renamed.kp, (by
    obtain ⟨ds, hv, hb⟩ := FunD.binds1 (ps := P_renamed) F_renamed 4 3 (by simp [He.DefD.dvs]) rfl fun _ _ _ _ _ _ _ us its hl hi => match us, hl, its, hi with | [_, _, _, _], _, [_, _, _], _ => ⟨_, rfl, rfl⟩
    cases hv
    exact hb), ok_renamed T F_renamed D_look_at_names⟩
  have D_shown : Kd P w K mg base "shown" P_shown (pureSp K R_shown) 1 := ⟨_, _, He.glo_ok X G (factL c 40 (f := .glo "shown") rfl), F_shown.kp, (FunD.bindsN (ps := P_shown) F_shown fun _ _ _ _ _ _ us hl => match us, hl with | [_], _ => rfl), ok_shown T F_shown⟩
  have D_read_kind : Kd P w K mg base "read_kind" P_read_kind (rdSp K S_kind) 1 := ⟨_, _, He.glo_ok X G (factL c 42 (f := .glo "read_kind") rfl), F_read_kind.kp, (FunD.bindsN (ps := P_read_kind) F_read_kind fun _ _ _ _ _ _ us hl => match us, hl with | [_, _], _ => rfl), ok_read_kind T F_read_kind⟩
  have D_read_letter : Kd P w K mg base "read_letter" P_read_letter (pureSp K R_read_letter) 1 := ⟨_, _, He.glo_ok X G (factL c 41 (f := .glo "read_letter") rfl), F_read_letter.kp, (FunD.bindsN (ps := P_read_letter) F_read_letter fun _ _ _ _ _ _ us hl => match us, hl with | [_], _ => rfl), ok_read_letter T F_read_letter⟩
  have D_read_deal : Kd P w K mg base "read_deal" P_read_deal (rdSp K S_deal) 2 := ⟨_, _, He.glo_ok X G (factL c 43 (f := .glo "read_deal") rfl), F_read_deal.kp, (FunD.bindsN (ps := P_read_deal) F_read_deal fun _ _ _ _ _ _ us hl => match us, hl with | [_, _], _ => rfl), ok_read_deal T F_read_deal D_read_letter⟩
  have D_read_step : Kd P w K mg base "read_step" P_read_step (rdSp K S_step) 1 := ⟨_, _, He.glo_ok X G (factL c 44 (f := .glo "read_step") rfl), F_read_step.kp, (FunD.bindsN (ps := P_read_step) F_read_step fun _ _ _ _ _ _ us hl => match us, hl with | [_, _], _ => rfl), ok_read_step T F_read_step⟩
  have D_read_row : Kd P w K mg base "read_row" P_read_row (rdSp K S_row) 3 := ⟨_, _, He.glo_ok X G (factL c 45 (f := .glo "read_row") rfl), F_read_row.kp, (FunD.bindsN (ps := P_read_row) F_read_row fun _ _ _ _ _ _ us hl => match us, hl with | [_, _], _ => rfl), ok_read_row T F_read_row D_read_kind D_read_deal D_read_step⟩
  have D_is_list_of : Kd P w K mg base "is_list_of" P_is_list_of (pureSp K R_is_list_of) 1 := ⟨_, _, He.glo_ok X G (factL c 26 (f := .glo "is_list_of") rfl), F_is_list_of.kp, (FunD.bindsN (ps := P_is_list_of) F_is_list_of fun _ _ _ _ _ _ us hl => match us, hl with | [_, _], _ => rfl), ok_is_list_of T F_is_list_of⟩
  have D_is_pair : Kd P w K mg base "is_pair" P_is_pair (pureSp K R_is_pair) 1 := ⟨_, _, He.glo_ok X G (factL c 27 (f := .glo "is_pair") rfl), F_is_pair.kp, (FunD.bindsN (ps := P_is_pair) F_is_pair fun _ _ _ _ _ _ us hl => match us, hl with | [_], _ => rfl), ok_is_pair T F_is_pair⟩
  have D_look_at_kinds : Kd P w K mg base "look_at_kinds" P_look_at_kinds (kindSp K) 3 := ⟨_, _, He.glo_ok X G (factL c 28 (f := .glo "look_at_kinds") rfl), F_look_at_kinds.kp, (FunD.bindsN (ps := P_look_at_kinds) F_look_at_kinds fun _ _ _ _ _ _ us hl => match us, hl with | [_], _ => rfl), ok_look_at_kinds T F_look_at_kinds D_is_list_of D_is_pair D_is_name⟩
  have D_look_at_letters : Kd P w K mg base "look_at_letters" P_look_at_letters (letSp K) 2 := ⟨_, _, He.glo_ok X G (factL c 29 (f := .glo "look_at_letters") rfl), F_look_at_letters.kp, (FunD.bindsN (ps := P_look_at_letters) F_look_at_letters fun _ _ _ _ _ _ us hl => match us, hl with | [_, _, _], _ => rfl), ok_look_at_letters T F_look_at_letters D_is_list_of D_is_pair D_is_letter⟩
  have D_look_at_steps : Kd P w K mg base "look_at_steps" P_look_at_steps (pureSp K R_look_at_steps) 2 := ⟨_, _, He.glo_ok X G (factL c 30 (f := .glo "look_at_steps") rfl), F_look_at_steps.kp, (FunD.bindsN (ps := P_look_at_steps) F_look_at_steps fun _ _ _ _ _ _ us hl => match us, hl with | [_, _, _], _ => rfl), ok_look_at_steps T F_look_at_steps D_is_list_of D_is_pair D_is_letter⟩
  have D_look_at_book : Kd P w K mg base "look_at_book" P_look_at_book (pureSp K R_look_at_book) 4 := ⟨_, _, He.glo_ok X G (factL c 31 (f := .glo "look_at_book") rfl), F_look_at_book.kp, (FunD.bindsN (ps := P_look_at_book) F_look_at_book fun _ _ _ _ _ _ us hl => match us, hl with | [_], _ => rfl), ok_look_at_book T F_look_at_book D_is_list_of D_is_pair D_is_name D_look_at_kinds D_look_at_letters D_look_at_steps⟩
  have D_read : Kd P w K mg base "read" P_read (pureSp K R_read) 5 := ⟨_, _, He.glo_ok X G (factL c 46 (f := .glo "read") rfl), F_read.kp, (FunD.bindsN (ps := P_read) F_read fun _ _ _ _ _ _ us hl => match us, hl with | [_], _ => rfl), ok_read T F_read D_read_row D_look_at_book⟩
  have D_is_whole : Kd P w K mg base "is_whole" P_is_whole (pureSp K R_is_whole) 1 := ⟨_, _, He.glo_ok X G (factL c 23 (f := .glo "is_whole") rfl), F_is_whole.kp, (FunD.bindsN (ps := P_is_whole) F_is_whole fun _ _ _ _ _ _ us hl => match us, hl with | [_], _ => rfl), ok_is_whole T F_is_whole⟩
  have D_dealing_copied : Kd P w K mg base "dealing_copied" P_dealing_copied (pureSp K R_dealing_copied) 1 := ⟨_, _, He.glo_ok X G (factL c 32 (f := .glo "dealing_copied") rfl), F_dealing_copied.kp, (FunD.bindsN (ps := P_dealing_copied) F_dealing_copied fun _ _ _ _ _ _ us hl => match us, hl with | [_], _ => rfl), ok_dealing_copied T F_dealing_copied⟩
  have D_book_copied : Kd P w K mg base "book_copied" P_book_copied (pureSp K R_book_copied) 2 := ⟨_, _, He.glo_ok X G (factL c 33 (f := .glo "book_copied") rfl), F_book_copied.kp, (FunD.bindsN (ps := P_book_copied) F_book_copied fun _ _ _ _ _ _ us hl => match us, hl with | [_], _ => rfl), ok_book_copied T F_book_copied D_dealing_copied⟩
  have D_chosen : Kd P w K mg base "chosen" P_chosen (pureSp K R_chosen) 3 := ⟨_, _, He.glo_ok X G (factL c 39 (f := .glo "chosen") rfl), F_chosen.kp, (FunD.bindsN (ps := P_chosen) F_chosen fun _ _ _ _ _ _ us hl => match us, hl with | [_, _], _ => rfl), ok_chosen T F_chosen D_is_whole D_book_copied D_dealing_copied⟩
  have D__law_right : Kd P w K mg base "_law_right" P__law_right (poolSp K Pre_new R_right) 6 := ⟨_, _, He.glo_ok X G (factL c 55 (f := .glo "_law_right") rfl), F__law_right.kp, (FunD.bindsN (ps := P__law_right) F__law_right fun _ _ _ _ _ _ us hl => match us, hl with | [_, _], _ => rfl), ok__law_right T F__law_right D__law_new_names D__law_order D_renamed D_shown D_read D_chosen D_look_at_book⟩
  exact ok_law T F D__law_pool D__law_draw D__law_book D__law_right
end
end
end SN
open PySem PySem.W PySem.Calls PyProof.Rows
theorem PySem.Challenge.cw_snapsure_k11_whole_named_there_and_back_holds : PySem.Challenge.rw_snapsure_k11_whole_named_there_and_back.Holds := by
  w_on; o_law
  refine HandSHeadRun.head_any (r := OpenLaw.row PySem.Challenge.rw_snapsure_k11_whole_named_there_and_back) (q := view (OpenLaw.row PySem.Challenge.rw_snapsure_k11_whole_named_there_and_back).prog [53]) (H := SN.hkL) (ob := SN.obL) (M := 3200) (loose := SN.loose1 ++ SN.loose2) (d := HandSHeadRun.topDef (OpenLaw.row PySem.Challenge.rw_snapsure_k11_whole_named_there_and_back).prog 53) (kwd := []) SN.obL_eq
    (by kernel_rfl) (fun s => by kernel_rfl) SN.runL (by kernel_rfl) (by kernel_rfl) (by kernel_rfl) (by rfl) (by first | assumption | decide +kernel) (by decide +kernel) ⟨rfl, rfl, rfl, rfl, rfl, by decide +kernel⟩ ?hw ?hc
  case hw => w_witness2
  case hc =>
    refine L2.walk_ofE (l := PySem.Challenge.rw_snapsure_k11_whole_named_there_and_back) (n := 63) (k := 7) (x := "_law_script") (CX := L2.CX0) rfl (by decide) (by kernel_rfl) ⟨rfl, by decide, by decide⟩ ?F (fun _ _ _ _ z => z)
    intro w mg fa h Y G hmg0
    obtain ⟨K, KX, c⟩ := Y
    obtain ⟨fd, gl, hb, hF⟩ := SN.law_facts (P := (PySem.Challenge.rw_snapsure_k11_whole_named_there_and_back).prog) (w := w) KX G c
    have e : (HandSHeadRun.topDef (OpenLaw.row PySem.Challenge.rw_snapsure_k11_whole_named_there_and_back).prog 53).name = ("law" : PySem.Str) := by kernel_rfl
    rw [e] at hmg0
    have ef := hmg0.symm.trans gl
    cases ef
    exact ⟨K, fd, SN.lawSp K, KX, hb, fun H a ns hl _ hS => ⟨a, ns, rfl, hS, fun _ => rfl⟩, fun base _ _ => hF base⟩

