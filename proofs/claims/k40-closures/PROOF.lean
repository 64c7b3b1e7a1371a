import PyProof.Rows.All
import Wide.All
import OpenK.AllK
import Wide.FinOn
import HandS.ForMost
import HandS.Deep
import HandS.Walk
import HandS.AnyAll
import HandS.IsInst
import HandS.Style
import HandS.EndTab
import HandS.EndOwn
import KE.SortData
import KE.DataMinMax
import KE.GoesMore
import PyProof.GenCompD
import PySem.Challenge.RW_relaybanks_k40_whole_closures
import KE.OsSortAny
set_option Elab.async false
set_option linter.all false
set_option maxRecDepth 100000
set_option maxHeartbeats 4000000
/-! ### the data layer: what a reading evaluates to, as data over the known part M of the heap H -/
namespace Rb
open PySem L2

/-- all that is tracked stays; code tables may grow -/
def Gr (H H' : Hp) : Prop := ∀ b o, H b = some o → H' b = some o ∨ ((∃ ps, o = HO.tbl ps) ∧ GxR.TabG H' b)
theorem Gr.refl (H : Hp) : Gr H H := fun _ _ h => .inl h
theorem Gr.trans {H H1 H2 : Hp} (a : Gr H H1) (b : Gr H1 H2) : Gr H H2 := fun c o h => by
  rcases a c o h with h1 | ⟨⟨ps, e⟩, ps', h1, t⟩
  · exact b c o h1
  · refine .inr ⟨⟨ps, e⟩, ?_⟩
    rcases b c _ h1 with h2 | ⟨_, h2⟩
    · exact ⟨ps', h2, t⟩
    · exact h2
theorem Gr.keep {H H1 : Hp} {c : Addr} {o : HO} (a : Gr H H1) (h : H c = some o) (n : ∀ ps, o ≠ HO.tbl ps) : H1 c = some o := by
  rcases a c o h with h1 | ⟨⟨ps, e⟩, _⟩
  · exact h1
  · exact absurd e (n ps)
theorem Gr.lst {H H1 : Hp} {c : Addr} {xs : List V} (a : Gr H H1) (h : H c = some (.lst xs)) : H1 c = some (.lst xs) := a.keep h fun _ e => by cases e
theorem Gr.tab {H H1 : Hp} {c : Addr} (a : Gr H H1) (h : GxR.TabG H c) : GxR.TabG H1 c := by
  obtain ⟨ps, e, t⟩ := h
  rcases a c _ e with h1 | ⟨_, h1⟩
  · exact ⟨ps, h1, t⟩
  · exact h1
theorem Gr.new {H : Hp} {p : Addr} {o : HO} (h : H p = none) : Gr H (upd H p o) := fun a u e => .inl (by rw [upd_ne (ne_of_none e h)]; exact e)
theorem Gr.mut {H H' : Hp} {p : Addr} {o : HO} (e : Gr H H') (h : H p = none) : Gr H (upd H' p o) := fun a u ha => by
  have n := ne_of_none ha h
  rcases e a u ha with h1 | ⟨h2, ps, h1, t⟩
  · exact .inl (by rw [upd_ne n]; exact h1)
  · exact .inr ⟨h2, ps, by rw [upd_ne n]; exact h1, t⟩
theorem Gr.back {H H' : Hp} {p : Addr} (e : Gr H H') (h : H' p = none) : H p = none := by
  cases h1 : H p with
  | none => rfl
  | some o =>
    rcases e p o h1 with h2 | ⟨_, ps, h2, _⟩
    · rw [h2] at h; cases h
    · rw [h2] at h; cases h
theorem Gr.same {H H' : Hp} (e : Same H H') : Gr H H' := fun b o h => .inl (e b o h)
theorem Gr.tabbed {H H' : Hp} {P : Addr} (t : GxR.TabG H P) (h : GxR.Tabbed P H H') : Gr H H' := fun b o e => by
  by_cases hb : b = P
  · subst hb
    obtain ⟨ps, e1, _⟩ := t
    rw [e] at e1
    cases e1
    exact .inr ⟨⟨_, rfl⟩, h.1⟩
  · exact .inl (by rw [h.2 b hb]; exact e)
theorem Same.new {H : Hp} {p : Addr} {o : HO} (h : H p = none) : Same H (upd H p o) := fun a u e => by rw [upd_ne (ne_of_none e h)]; exact e
theorem Same.mut {H H' : Hp} {p : Addr} {o : HO} (e : Same H H') (h : H p = none) : Same H (upd H' p o) := fun a u ha => by
  rw [upd_ne (ne_of_none ha h)]
  exact e a u ha
theorem Same.both {H H' : Hp} {p : Addr} {o : HO} (e : Same H H') (h : H p = none) : Same (upd H p o) (upd H' p o) := fun a u ha => by
  by_cases q : a = p
  · subst q
    rw [upd_same] at ha ⊢
    exact ha
  · rw [upd_ne q] at ha ⊢
    exact e a u ha
theorem Same.no {H H' : Hp} {p : Addr} (e : Same H H') (h : H' p = none) : H p = none := (Gr.same e).back h

/-- from (M, H) to (M', H'): M the known part; what is newly known is newly made -/
structure Ex (M H M' H' : Hp) : Prop where
  m : Same M M'
  h : Gr H H'
  mh : Same M' H'
  fr : ∀ b, M' b ≠ none → M b ≠ none ∨ H b = none
theorem Ex.refl {M H : Hp} (s : Same M H) : Ex M H M H := ⟨Same.refl M, Gr.refl H, s, fun _ h => .inl h⟩
theorem Ex.trans {M H M1 H1 M2 H2 : Hp} (a : Ex M H M1 H1) (b : Ex M1 H1 M2 H2) : Ex M H M2 H2 :=
  ⟨a.m.trans b.m, a.h.trans b.h, b.mh, fun c h => by
    rcases b.fr c h with h1 | h1
    · exact a.fr c h1
    · exact .inr (a.h.back h1)⟩
/-- a new known object -/
theorem Ex.new {M H : Hp} {p : Addr} {o : HO} (s : Same M H) (h : H p = none) : Ex M H (upd M p o) (upd H p o) :=
  ⟨Same.new (Same.no s h), Gr.new h, Same.both s (Same.no s h), fun b hb => by
    by_cases q : b = p
    · exact .inr (by rw [q]; exact h)
    · rw [upd_ne q] at hb
      exact .inl hb⟩
/-- something unknown stays unknown -/
theorem Ex.out {M H M' H' : Hp} {p : Addr} (e : Ex M H M' H') (h1 : M p = none) (h2 : H p ≠ none) : M' p = none := by
  cases q : M' p with
  | none => rfl
  | some o =>
    rcases e.fr p (by rw [q]; simp) with z | z
    · exact absurd h1 z
    · exact absurd z h2
/-- what is unknown changes -/
theorem Same.mutK {M H : Hp} {p : Addr} {o : HO} (s : Same M H) (h : M p = none) : Same M (upd H p o) := Same.mut s h
theorem Ex.tabbed {M H H' : Hp} {P : Addr} (s : Same M H) (nt : M P = none) (t : GxR.TabG H P) (h : GxR.Tabbed P H H') : Ex M H M H' :=
  ⟨Same.refl M, Gr.tabbed t h, fun b o e => by
    have hb : b ≠ P := fun z => by rw [z, nt] at e; cases e
    rw [h.2 b hb]
    exact s b o e, fun _ q => .inl q⟩

mutual
/-- a value is a datum, over the known objects -/
inductive De (M : Hp) : V → PyData → Prop
  | non : De M .non .none
  | bl (b : Bool) : De M (.bl b) (.bool b)
  | int (i : Int) : De M (.int i) (.int i)
  | str (x : Str) : De M (.str x) (.str x)
  | lst {a : Addr} {xs : List V} {ds : List PyData} : M a = some (.lst xs) → DeAll M xs ds → De M (.ref a) (.list ds)
  | tup {a : Addr} {xs : List V} {ds : List PyData} : M a = some (.tup xs) → DeAll M xs ds → De M (.ref a) (.tuple ds)
inductive DeAll (M : Hp) : List V → List PyData → Prop
  | nil : DeAll M [] []
  | cons {v : V} {vs : List V} {d : PyData} {ds : List PyData} : De M v d → DeAll M vs ds → DeAll M (v :: vs) (d :: ds)
end
mutual
theorem De.mono' {M N : Hp} (hl : ∀ a xs, M a = some (.lst xs) → N a = some (.lst xs)) (ht : ∀ a xs, M a = some (.tup xs) → N a = some (.tup xs)) : ∀ (d : PyData) (v : V), De M v d → De N v d
  | .none, _, h => by cases h; exact .non
  | .bool b, _, h => by cases h; exact .bl b
  | .int i, _, h => by cases h; exact .int i
  | .str x, _, h => by cases h; exact .str x
  | .list ds, _, h => by
    cases h with
    | lst h1 h2 => exact .lst (hl _ _ h1) (DeAll.mono' hl ht ds _ h2)
  | .tuple ds, _, h => by
    cases h with
    | tup h1 h2 => exact .tup (ht _ _ h1) (DeAll.mono' hl ht ds _ h2)
  | .dict _, _, h => by cases h
theorem DeAll.mono' {M N : Hp} (hl : ∀ a xs, M a = some (.lst xs) → N a = some (.lst xs)) (ht : ∀ a xs, M a = some (.tup xs) → N a = some (.tup xs)) : ∀ (ds : List PyData) (vs : List V), DeAll M vs ds → DeAll N vs ds
  | [], _, h => by cases h; exact .nil
  | d :: ds, _, h => by
    cases h with
    | cons h1 h2 => exact .cons (De.mono' hl ht d _ h1) (DeAll.mono' hl ht ds _ h2)
end
theorem De.mono {M N : Hp} {d : PyData} {v : V} (e : Same M N) (h : De M v d) : De N v d := De.mono' (fun a xs q => e a _ q) (fun a xs q => e a _ q) d v h
theorem DeAll.mono {M N : Hp} {ds : List PyData} {vs : List V} (e : Same M N) (h : DeAll M vs ds) : DeAll N vs ds := DeAll.mono' (fun a xs q => e a _ q) (fun a xs q => e a _ q) ds vs h
mutual
theorem De.dp {K : PySem.W.Frag} {M : Hp} : ∀ (d : PyData) (v : V), De M v d → Dp K M v d
  | .none, _, h => by cases h; exact .non
  | .bool b, _, h => by cases h; exact .bl b
  | .int i, _, h => by cases h; exact .int i
  | .str x, _, h => by cases h; exact .str x
  | .list ds, _, h => by
    cases h with
    | lst h1 h2 => exact .lst (SqL.of h1) (DeAll.dp ds _ h2)
  | .tuple ds, _, h => by
    cases h with
    | tup h1 h2 => exact .tup (SqT.of h1) (DeAll.dp ds _ h2)
  | .dict _, _, h => by cases h
theorem DeAll.dp {K : PySem.W.Frag} {M : Hp} : ∀ (ds : List PyData) (vs : List V), DeAll M vs ds → DpAll K M vs ds
  | [], _, h => by cases h; exact .nil
  | d :: ds, _, h => by
    cases h with
    | cons h1 h2 => exact .cons (De.dp d _ h1) (DeAll.dp ds _ h2)
end
theorem DeAll.len {M : Hp} : ∀ {vs : List V} {ds : List PyData}, DeAll M vs ds → vs.length = ds.length
  | _, _, .nil => rfl
  | _, _, .cons _ t => congrArg Nat.succ (DeAll.len t)
theorem DeAll.get {M : Hp} : ∀ {vs : List V} {ds : List PyData} {i : Nat} {v : V}, DeAll M vs ds → vs[i]? = some v → ∃ d, ds[i]? = some d ∧ De M v d
  | _, _, _, _, .nil, e => by simp at e
  | _, _, 0, _, .cons r _, e => by simp at e; subst e; exact ⟨_, rfl, r⟩
  | _, _, i + 1, v, .cons _ t, e => by
    obtain ⟨d, h1, h2⟩ := DeAll.get (i := i) t (by simpa using e)
    exact ⟨d, by simpa using h1, h2⟩
theorem DeAll.at {M : Hp} {vs : List V} {ds : List PyData} {i : Nat} {d : PyData} (h : DeAll M vs ds) (e : ds[i]? = some d) : ∃ v, vs[i]? = some v ∧ De M v d := by
  have hi : i < ds.length := (List.getElem?_eq_some_iff.mp e).1
  have hv : i < vs.length := by rw [h.len]; exact hi
  obtain ⟨d', h1, h2⟩ := h.get (List.getElem?_eq_getElem hv)
  rw [e] at h1
  cases h1
  exact ⟨_, List.getElem?_eq_getElem hv, h2⟩
theorem DeAll.append {M : Hp} : ∀ {vs : List V} {ds : List PyData} {us : List V} {es : List PyData}, DeAll M vs ds → DeAll M us es → DeAll M (vs ++ us) (ds ++ es)
  | _, _, _, _, .nil, s => s
  | _, _, _, _, .cons r t, s => .cons r (DeAll.append t s)
theorem DeAll.snoc {M : Hp} {vs : List V} {ds : List PyData} {v : V} {d : PyData} (h : DeAll M vs ds) (r : De M v d) : DeAll M (vs ++ [v]) (ds ++ [d]) := h.append (.cons r .nil)
theorem DeAll.nilV {M : Hp} {vs : List V} (h : DeAll M vs []) : vs = [] := by cases h; rfl
theorem DeAll.one {M : Hp} {vs : List V} {d : PyData} (h : DeAll M vs [d]) : ∃ v, vs = [v] ∧ De M v d := by
  cases h with
  | cons a b => cases b; exact ⟨_, rfl, a⟩
theorem DeAll.two {M : Hp} {vs : List V} {d e : PyData} (h : DeAll M vs [d, e]) : ∃ v w, vs = [v, w] ∧ De M v d ∧ De M w e := by
  cases h with
  | cons a b => obtain ⟨w, rfl, r⟩ := b.one; exact ⟨_, _, rfl, a, r⟩
theorem DeAll.three {M : Hp} {vs : List V} {d e f : PyData} (h : DeAll M vs [d, e, f]) : ∃ u v w, vs = [u, v, w] ∧ De M u d ∧ De M v e ∧ De M w f := by
  cases h with
  | cons a b => obtain ⟨v, w, rfl, r1, r2⟩ := b.two; exact ⟨_, _, _, rfl, a, r1, r2⟩
theorem DeAll.rev {M : Hp} : ∀ {vs : List V} {ds : List PyData}, DeAll M vs ds → DeAll M vs.reverse ds.reverse
  | _, _, .nil => .nil
  | _, _, .cons r t => by rw [List.reverse_cons, List.reverse_cons]; exact t.rev.snoc r
theorem De.int_of {M : Hp} {v : V} {i : Int} (h : De M v (.int i)) : v = .int i := by cases h; rfl
theorem De.str_of {M : Hp} {v : V} {i : Str} (h : De M v (.str i)) : v = .str i := by cases h; rfl
theorem De.bl_of {M : Hp} {v : V} {i : Bool} (h : De M v (.bool i)) : v = .bl i := by cases h; rfl
theorem De.lst_of {M : Hp} {v : V} {ds : List PyData} (h : De M v (.list ds)) : ∃ a xs, v = .ref a ∧ M a = some (.lst xs) ∧ DeAll M xs ds := by
  cases h with
  | lst h1 h2 => exact ⟨_, _, rfl, h1, h2⟩
theorem De.tup_of {M : Hp} {v : V} {ds : List PyData} (h : De M v (.tuple ds)) : ∃ a xs, v = .ref a ∧ M a = some (.tup xs) ∧ DeAll M xs ds := by
  cases h with
  | tup h1 h2 => exact ⟨_, _, rfl, h1, h2⟩

/-! ### what evaluates to what -/
def Tabs (T : List Addr) (H : Hp) : Prop := ∀ P ∈ T, GxR.TabG H P
theorem Tabs.gr {T : List Addr} {H H' : Hp} (t : Tabs T H) (g : Gr H H') : Tabs T H' := fun P hP => g.tab (t P hP)

/-- the state (M, H) that is worked from -/
structure Ok (T : List Addr) (M H : Hp) : Prop where
  s : Same M H
  t : Tabs T H
  n : ∀ P ∈ T, M P = none
theorem Ok.ex {T : List Addr} {M H M' H' : Hp} (o : Ok T M H) (e : Ex M H M' H') : Ok T M' H' :=
  ⟨e.mh, o.t.gr e.h, fun P hP => e.out (o.n P hP) fun z => by obtain ⟨ps, q, _⟩ := o.t P hP; rw [z] at q; cases q⟩
theorem Ok.refl {T : List Addr} {M H : Hp} (o : Ok T M H) : Ex M H M H := Ex.refl o.s
/-- an unknown object that is no table is changed -/
theorem Ok.mut {T : List Addr} {M H : Hp} {p : Addr} {ob : HO} (o : Ok T M H) (h : M p = none) (nt : ¬ GxR.TabG H p) : Ok T M (upd H p ob) :=
  ⟨Same.mut o.s h, fun P hP => by
    obtain ⟨ps, e, t⟩ := o.t P hP
    have ne : P ≠ p := fun z => nt (z ▸ ⟨ps, e, t⟩)
    exact ⟨ps, by rw [upd_ne ne]; exact e, t⟩, o.n⟩
theorem notab_lst {H : Hp} {p : Addr} {xs : List V} (h : H p = some (.lst xs)) : ¬ GxR.TabG H p := fun ⟨ps, e, _⟩ => by rw [h] at e; cases e
theorem notab_none {H : Hp} {p : Addr} (h : H p = none) : ¬ GxR.TabG H p := fun ⟨ps, e, _⟩ => by rw [h] at e; cases e

section
variable (T : List Addr)
def Ed (te : TE) (σ : L2.St) (M : Hp) (d : PyData) : Prop := ∀ M1 H1, Same M M1 → Ok T M1 H1 → ∀ Q : VK, (∀ v M2 H2, Ex M1 H1 M2 H2 → De M2 v d → Q v H2) → te σ H1 Q
def EdT (tt : TT) (σ : L2.St) (M : Hp) (b : Bool) : Prop := ∀ M1 H1, Same M M1 → Ok T M1 H1 → ∀ Q : Bool → Hp → Prop, (∀ M2 H2, Ex M1 H1 M2 H2 → Q b H2) → tt σ H1 Q
def EdA (ta : TA) (σ : L2.St) (M : Hp) (ds : List PyData) : Prop := ∀ M1 H1, Same M M1 → Ok T M1 H1 → ∀ Q : List V → Hp → Prop, (∀ vs M2 H2, Ex M1 H1 M2 H2 → DeAll M2 vs ds → Q vs H2) → ta σ H1 Q
def EdI (wi : TI) (σ : L2.St) (M : Hp) (ds : List PyData) : Prop := ∀ M1 H1, Same M M1 → Ok T M1 H1 → ∀ R : It → Hp → Prop,
  (∀ M2 H2 J G Y, Ex M1 H1 M2 H2 → Walk J ds.length G Y → (∀ H3, Same M2 H3 → G H3) →
    (∀ i M3 H3 x H4, Same M2 M3 → Same M3 H3 → i < ds.length → Y i H3 x H4 → ∃ M4 d, Ex M3 H3 M4 H4 ∧ ds[i]? = some d ∧ De M4 x d) → R J H2) → wi σ H1 R
end
/-- an operator on data; a call on data -/
def Rd2 (r : R2) (d1 d2 d : PyData) : Prop := ∀ x y M H (Q : VK), Same M H → De M x d1 → De M y d2 → (∀ v M2 H2, Ex M H M2 H2 → De M2 v d → Q v H2) → r x y H Q
def Rdc (r : List V → Hp → VK → Prop) (ds : List PyData) (d : PyData) : Prop := ∀ vs M H (Q : VK), Same M H → DeAll M vs ds → (∀ v M2 H2, Ex M H M2 H2 → De M2 v d → Q v H2) → r vs H Q

section
variable {T : List Addr} {σ : L2.St} {M M' : Hp} {ta tb te tx : TE} {t u : TT} {d d1 d2 : PyData} {r : R2}
theorem Ed.mono (e : Same M M') (h : Ed T te σ M d) : Ed T te σ M' d := fun M1 H1 a o Q q => h M1 H1 (e.trans a) o Q q
theorem EdT.mono {b : Bool} (e : Same M M') (h : EdT T t σ M b) : EdT T t σ M' b := fun M1 H1 a o Q q => h M1 H1 (e.trans a) o Q q
/-- run it -/
theorem Ed.go {H : Hp} {Q : VK} (h : Ed T te σ M d) (o : Ok T M H) (q : ∀ v M2 H2, Ex M H M2 H2 → Ok T M2 H2 → De M2 v d → Q v H2) : te σ H Q := h M H (Same.refl M) o Q fun v M2 H2 e dv => q v M2 H2 e (o.ex e) dv
theorem EdT.go {H : Hp} {b : Bool} {Q : Bool → Hp → Prop} (h : EdT T t σ M b) (o : Ok T M H) (q : ∀ M2 H2, Ex M H M2 H2 → Ok T M2 H2 → Q b H2) : t σ H Q := h M H (Same.refl M) o Q fun M2 H2 e => q M2 H2 e (o.ex e)
theorem ed_var {i : Nat} {v : V} (h : σ[i]? = some (some v)) (dv : De M v d) : Ed T (tVar i) σ M d := fun M1 H1 s o _ q => ⟨v, h, q v M1 H1 o.refl (dv.mono s)⟩
theorem ed_int {i : Int} : Ed T (tC (.int i)) σ M (.int i) := fun M1 H1 s o _ q => q _ M1 H1 o.refl (.int i)
theorem ed_str {i : Str} : Ed T (tC (.str i)) σ M (.str i) := fun M1 H1 s o _ q => q _ M1 H1 o.refl (.str i)
theorem ed_bl {i : Bool} : Ed T (tC (.bl i)) σ M (.bool i) := fun M1 H1 s o _ q => q _ M1 H1 o.refl (.bl i)
theorem ed_non : Ed T (tC .non) σ M .none := fun M1 H1 s o _ q => q _ M1 H1 o.refl .non
theorem ed_op (ha : Ed T ta σ M d1) (hb : Ed T tb σ M d2) (hr : Rd2 r d1 d2 d) : Ed T (tOp r ta tb) σ M d := fun M1 H1 s o Q q =>
  ha M1 H1 s o _ fun x M2 H2 e2 dx => hb M2 H2 (s.trans e2.m) (o.ex e2) _ fun y M3 H3 e3 dy => hr x y M3 H3 Q e3.mh (dx.mono e3.m) dy fun v M4 H4 e4 dv => q v M4 H4 ((e2.trans e3).trans e4) dv
theorem ea_nil : EdA T tNil σ M [] := fun M1 H1 s o _ q => q _ M1 H1 o.refl .nil
theorem ea_cons {tr : TA} {ds : List PyData} (h : Ed T ta σ M d) (hr : EdA T tr σ M ds) : EdA T (tCons ta tr) σ M (d :: ds) := fun M1 H1 s o Q q =>
  h M1 H1 s o _ fun x M2 H2 e2 dx => hr M2 H2 (s.trans e2.m) (o.ex e2) _ fun xs M3 H3 e3 dxs => q _ M3 H3 (e2.trans e3) (.cons (dx.mono e3.m) dxs)
theorem ed_tup {ta : TA} {ds : List PyData} (h : EdA T ta σ M ds) (hl : ds.length ≤ 100000) : Ed T (tTup ta) σ M (.tuple ds) := fun M1 H1 s o Q q =>
  h M1 H1 s o _ fun xs M2 H2 e2 dxs => ⟨by rw [dxs.len]; exact Nat.le_trans hl (by decide), fun p hp => q _ _ _ (e2.trans (Ex.new e2.mh hp)) (.tup upd_same (dxs.mono (Same.new (Same.no e2.mh hp))))⟩
theorem ed_lst {ta : TA} {ds : List PyData} (h : EdA T ta σ M ds) (hl : ds.length ≤ 100000) : Ed T (tLst ta) σ M (.list ds) := fun M1 H1 s o Q q =>
  h M1 H1 s o _ fun xs M2 H2 e2 dxs => ⟨by rw [dxs.len]; exact Nat.le_trans hl (by decide), fun p hp => q _ _ _ (e2.trans (Ex.new e2.mh hp)) (.lst upd_same (dxs.mono (Same.new (Same.no e2.mh hp))))⟩
theorem ed_cb {ta : TA} {ds : List PyData} {rc : List V → Hp → VK → Prop} (h : EdA T ta σ M ds) (hr : Rdc rc ds d) : Ed T (tCB rc ta) σ M d := fun M1 H1 s o Q q =>
  h M1 H1 s o _ fun xs M2 H2 e2 dxs => hr xs M2 H2 Q e2.mh dxs fun v M3 H3 e3 dv => q v M3 H3 (e2.trans e3) dv
theorem et_test {b : Bool} (h : Ed T te σ M (.bool b)) : EdT T (tTest te) σ M b := fun M1 H1 s o _ q => h M1 H1 s o _ fun v M2 H2 e2 dv => ⟨b, dv.bl_of, q M2 H2 e2⟩
theorem et_B {b : Bool} (h : Ed T te σ M (.bool b)) : EdT T (tB te) σ M b := fun M1 H1 s o _ q => h M1 H1 s o _ fun v M2 H2 e2 dv => ⟨b, dv.bl_of, q M2 H2 e2⟩
theorem et_and {a b : Bool} (h1 : EdT T t σ M a) (h2 : a = true → EdT T u σ M b) : EdT T (tAnd t u) σ M (a && b) := fun M1 H1 s o Q q => h1 M1 H1 s o _ fun M2 H2 e2 => by
  cases a with
  | true => exact h2 rfl M2 H2 (s.trans e2.m) (o.ex e2) Q fun M3 H3 e3 => q M3 H3 (e2.trans e3)
  | false => exact q M2 H2 e2
theorem et_or {a b : Bool} (h1 : EdT T t σ M a) (h2 : a = false → EdT T u σ M b) : EdT T (tOr t u) σ M (a || b) := fun M1 H1 s o Q q => h1 M1 H1 s o _ fun M2 H2 e2 => by
  cases a with
  | true => exact q M2 H2 e2
  | false => exact h2 rfl M2 H2 (s.trans e2.m) (o.ex e2) Q fun M3 H3 e3 => q M3 H3 (e2.trans e3)
theorem et_not {a : Bool} (h1 : EdT T t σ M a) : EdT T (tNot t) σ M (!a) := fun M1 H1 s o _ q => h1 M1 H1 s o _ fun M2 H2 e2 => q M2 H2 e2
theorem et_yes : EdT T tYes σ M true := fun M1 H1 s o _ q => q M1 H1 o.refl
theorem et_is {a b : Bool} (h : EdT T t σ M a) (e : a = b) : EdT T t σ M b := e ▸ h
theorem ed_is (h : Ed T te σ M d1) (e : d1 = d) : Ed T te σ M d := e ▸ h
theorem ed_andV {a b : Bool} (h1 : Ed T ta σ M (.bool a)) (h2 : a = true → Ed T tb σ M (.bool b)) : Ed T (tAndV ta tb) σ M (.bool (a && b)) := fun M1 H1 s o Q q => h1 M1 H1 s o _ fun v M2 H2 e2 dv => ⟨a, dv.bl_of, by
  cases a with
  | true => exact h2 rfl M2 H2 (s.trans e2.m) (o.ex e2) Q fun v M3 H3 e3 => q v M3 H3 (e2.trans e3)
  | false => exact q _ M2 H2 e2 (.bl _)⟩
theorem ed_notV {a : Bool} (h1 : Ed T ta σ M (.bool a)) : Ed T (tNotV ta) σ M (.bool (!a)) := fun M1 H1 s o Q q => h1 M1 H1 s o _ fun v M2 H2 e2 dv => ⟨a, dv.bl_of, q _ M2 H2 e2 (.bl _)⟩
theorem ed_if {b : Bool} (h : EdT T t σ M b) (h1 : b = true → Ed T ta σ M d) (h2 : b = false → Ed T tb σ M d) : Ed T (tIf t ta tb) σ M d := fun M1 H1 s o Q q => h M1 H1 s o _ fun M2 H2 e2 => by
  cases b with
  | true => exact h1 rfl M2 H2 (s.trans e2.m) (o.ex e2) Q fun v M3 H3 e3 => q v M3 H3 (e2.trans e3)
  | false => exact h2 rfl M2 H2 (s.trans e2.m) (o.ex e2) Q fun v M3 H3 e3 => q v M3 H3 (e2.trans e3)

/-! ### operators on data -/
theorem rd_val {x y z : V} (hz : ∀ M, De M z d) (h : ∀ (M : Hp) x' y' H (Q : VK), De M x' d1 → De M y' d2 → Q z H → r x' y' H Q) : Rd2 r d1 d2 d := fun x y M H Q s dx dy q => h M x y H Q dx dy (q z M H (Ex.refl s) (hz M))
theorem rd_int {f : Int → Int → Int} {i j : Int} : Rd2 (rI0 fun i j => .int (f i j)) (.int i) (.int j) (.int (f i j)) := fun x y M H Q s dx dy q => ⟨i, j, dx.int_of, dy.int_of, q _ M H (Ex.refl s) (.int _)⟩
theorem rd_cmp {f : Int → Int → Bool} {i j : Int} : Rd2 (rI0 fun i j => .bl (f i j)) (.int i) (.int j) (.bool (f i j)) := fun x y M H Q s dx dy q => ⟨i, j, dx.int_of, dy.int_of, q _ M H (Ex.refl s) (.bl _)⟩
theorem rd_eqI {i j : Int} : Rd2 rEq (.int i) (.int j) (.bool (decide (i = j))) := fun x y M H Q s dx dy q => by
  rw [dx.int_of, dy.int_of]
  refine ⟨rfl, ?_⟩
  have e : decide (V.int i = V.int j) = decide (i = j) := by simp
  rw [e]
  exact q _ M H (Ex.refl s) (.bl _)
theorem rd_neI {i j : Int} : Rd2 rNe (.int i) (.int j) (.bool (!decide (i = j))) := fun x y M H Q s dx dy q => by
  rw [dx.int_of, dy.int_of]
  refine ⟨rfl, ?_⟩
  have e : decide (V.int i = V.int j) = decide (i = j) := by simp
  rw [e]
  exact q _ M H (Ex.refl s) (.bl _)
theorem rd_eqS {i j : Str} : Rd2 rEq (.str i) (.str j) (.bool (decide (i = j))) := fun x y M H Q s dx dy q => by
  rw [dx.str_of, dy.str_of]
  refine ⟨rfl, ?_⟩
  have e : decide (V.str i = V.str j) = decide (i = j) := by simp
  rw [e]
  exact q _ M H (Ex.refl s) (.bl _)
theorem rd_eqB {i j : Bool} : Rd2 rEq (.bool i) (.bool j) (.bool (decide (i = j))) := fun x y M H Q s dx dy q => by
  rw [dx.bl_of, dy.bl_of]
  refine ⟨rfl, ?_⟩
  have e : decide (V.bl i = V.bl j) = decide (i = j) := by simp
  rw [e]
  exact q _ M H (Ex.refl s) (.bl _)
theorem rd_neB {i j : Bool} : Rd2 rNe (.bool i) (.bool j) (.bool (!decide (i = j))) := fun x y M H Q s dx dy q => by
  rw [dx.bl_of, dy.bl_of]
  refine ⟨rfl, ?_⟩
  have e : decide (V.bl i = V.bl j) = decide (i = j) := by simp
  rw [e]
  exact q _ M H (Ex.refl s) (.bl _)
theorem rd_ixL {K : PySem.W.Frag} {ds : List PyData} {j : Nat} {i : Int} (hi : i = (j : Int)) (h : ds[j]? = some d) : Rd2 (rIxL K) (.list ds) (.int i) d := fun x y M H Q s dx dy q => by
  subst hi
  obtain ⟨a, xs, rfl, h1, h2⟩ := dx.lst_of
  obtain ⟨v, h3, h4⟩ := h2.at h
  exact ⟨a, xs, _, v, rfl, dy.int_of, SqL.of (s _ _ h1), atI_nat h3, q v M H (Ex.refl s) h4⟩
theorem rd_ixT {K : PySem.W.Frag} {ds : List PyData} {j : Nat} {i : Int} (hi : i = (j : Int)) (h : ds[j]? = some d) : Rd2 (rIxT K) (.tuple ds) (.int i) d := fun x y M H Q s dx dy q => by
  subst hi
  obtain ⟨a, xs, rfl, h1, h2⟩ := dx.tup_of
  obtain ⟨v, h3, h4⟩ := h2.at h
  exact ⟨a, xs, _, v, rfl, dy.int_of, SqT.of (s _ _ h1), atI_nat h3, q v M H (Ex.refl s) h4⟩
theorem rd_ixS {z : Str} {j : Nat} {i : Int} {c : Nat} (hz : z.length ≤ sizeLine) (hi : i = (j : Int)) (h : z.cps.toList[j]? = some c) : Rd2 rIxS (.str z) (.int i) (.str ⟨#[c]⟩) := fun x y M H Q s dx dy q => by
  subst hi
  exact ⟨z, _, c, dx.str_of, dy.int_of, hz, atI_nat h, q _ M H (Ex.refl s) (.str _)⟩
theorem rd_inL {K : PySem.W.Frag} {ds : List PyData} (h1 : SeqAt.shaped d = true) (h2 : SeqAt.shaped (.list ds) = true) : Rd2 (rInD K) d (.list ds) (.bool (ds.any fun z => PyData.eqv z d)) := fun x y M H Q s dx dy q =>
  ⟨d, ds, De.dp _ _ (dx.mono s), De.dp _ _ (dy.mono s), h1, h2, q _ M H (Ex.refl s) (.bl _)⟩
theorem rd_niL {K : PySem.W.Frag} {ds : List PyData} (h1 : SeqAt.shaped d = true) (h2 : SeqAt.shaped (.list ds) = true) : Rd2 (rNotInD K) d (.list ds) (.bool (!ds.any fun z => PyData.eqv z d)) := fun x y M H Q s dx dy q =>
  ⟨d, ds, De.dp _ _ (dx.mono s), De.dp _ _ (dy.mono s), h1, h2, q _ M H (Ex.refl s) (.bl _)⟩
theorem rd_eqD {K : PySem.W.Frag} (h1 : SeqAt.shaped d1 = true) (h2 : SeqAt.shaped d2 = true) : Rd2 (rEqD K) d1 d2 (.bool (PyData.eqv d1 d2)) := fun x y M H Q s dx dy q =>
  ⟨d1, d2, De.dp _ _ (dx.mono s), De.dp _ _ (dy.mono s), h1, h2, q _ M H (Ex.refl s) (.bl _)⟩
theorem rd_neD {K : PySem.W.Frag} (h1 : SeqAt.shaped d1 = true) (h2 : SeqAt.shaped d2 = true) : Rd2 (rNeD K) d1 d2 (.bool (!PyData.eqv d1 d2)) := fun x y M H Q s dx dy q =>
  ⟨d1, d2, De.dp _ _ (dx.mono s), De.dp _ _ (dy.mono s), h1, h2, q _ M H (Ex.refl s) (.bl _)⟩
theorem rd_cat {ds es : List PyData} (hl : ds.length + es.length ≤ 100000) : Rd2 rCat (.list ds) (.list es) (.list (ds ++ es)) := fun x y M H Q s dx dy q => by
  obtain ⟨a, xs, rfl, h1, h2⟩ := dx.lst_of
  obtain ⟨b, ys, rfl, h3, h4⟩ := dy.lst_of
  refine ⟨a, b, xs, ys, rfl, rfl, s _ _ h1, s _ _ h3, by rw [h2.len, h4.len]; exact Nat.le_trans hl (by decide), fun p hp => ?_⟩
  exact q _ _ _ (Ex.new s hp) (.lst upd_same ((h2.append h4).mono (Same.new (Same.no s hp))))
end
end Rb

set_option Elab.async false
set_option linter.all false
set_option maxRecDepth 100000
set_option maxHeartbeats 4000000
/-! ### walks and comprehensions over data -/
namespace Rb
open PySem L2
section
variable {T : List Addr} {σ : L2.St} {M : Hp} {te tl : TE} {ta : TA} {ds : List PyData} {K : PySem.W.Frag}
theorem ei_list (h : Ed T tl σ M (.list ds)) : EdI T (iList K tl) σ M ds := fun M1 H1 s o R q => h M1 H1 s o _ fun v M2 H2 e2 dv => by
  obtain ⟨a, xs, rfl, h1, h2⟩ := dv.lst_of
  refine ⟨a, rfl, ⟨xs, SqL.of (e2.mh _ _ h1)⟩, ?_⟩
  have W : Walk (Itl K a) xs.length (fun H => SqL K H a xs) (YAt xs) := walk_list
  rw [h2.len] at W
  refine q M2 H2 _ _ _ e2 W (fun H3 s3 => SqL.of (s3 _ _ h1)) fun i M3 H3 x H4 s3 s4 hi y => ?_
  obtain ⟨rfl, hx⟩ := y
  obtain ⟨d, hd, dx⟩ := h2.get hx
  exact ⟨M3, d, Ex.refl s4, hd, dx.mono s3⟩
theorem ei_tup (h : Ed T tl σ M (.tuple ds)) : EdI T (iTup K tl) σ M ds := fun M1 H1 s o R q => h M1 H1 s o _ fun v M2 H2 e2 dv => by
  obtain ⟨a, xs, rfl, h1, h2⟩ := dv.tup_of
  refine ⟨a, rfl, ⟨xs, SqT.of (e2.mh _ _ h1)⟩, ?_⟩
  have W : Walk (Itt K a) xs.length (fun H => SqT K H a xs) (YAt xs) := walk_tup
  rw [h2.len] at W
  refine q M2 H2 _ _ _ e2 W (fun H3 s3 => SqT.of (s3 _ _ h1)) fun i M3 H3 x H4 s3 s4 hi y => ?_
  obtain ⟨rfl, hx⟩ := y
  obtain ⟨d, hd, dx⟩ := h2.get hx
  exact ⟨M3, d, Ex.refl s4, hd, dx.mono s3⟩
/-- lo, lo + 1, .. -/
def rgD (lo n : Nat) : List PyData := (List.range n).map fun i => .int ((lo + i : Nat) : Int)
theorem rgD_len (lo n : Nat) : (rgD lo n).length = n := by unfold rgD; rw [List.length_map, List.length_range]
theorem rgD_get {lo n i : Nat} (h : i < n) : (rgD lo n)[i]? = some (.int ((lo + i : Nat) : Int)) := by
  unfold rgD
  rw [List.getElem?_map, List.getElem?_range h]
  rfl
theorem mem_rgD {lo n : Nat} {d : PyData} (h : d ∈ rgD lo n) : ∃ i, i < n ∧ d = .int ((lo + i : Nat) : Int) := by
  obtain ⟨i, hi, e⟩ := List.mem_map.mp h
  exact ⟨i, List.mem_range.mp hi, e.symm⟩
theorem ei_rng1 {n : Nat} (h : EdA T ta σ M [.int (n : Int)]) (hn : n ≤ 100000) : EdI T (iRng1 ta) σ M (rgD 0 n) := fun M1 H1 s o R q => h M1 H1 s o _ fun vs M2 H2 e2 dv => by
  obtain ⟨v, rfl, dv1⟩ := dv.one
  cases dv1.int_of
  refine ⟨(n : Int), rfl, by omega, by omega, ?_⟩
  have W : Walk (Itr 0 ((n : Int)).toNat) ((n : Int)).toNat (fun _ => True) (YFn fun i => .int (0 + (i : Int))) := walk_range
  have e : ((n : Int)).toNat = n := rfl
  rw [e] at W ⊢
  have W' : Walk (Itr 0 n) (rgD 0 n).length (fun _ => True) (YFn fun i => .int (0 + (i : Int))) := by rw [rgD_len]; exact W
  refine q M2 H2 _ _ _ e2 W' (fun _ _ => trivial) fun i M3 H3 x H4 s3 s4 hi y => ?_
  obtain ⟨rfl, rfl⟩ := y
  rw [rgD_len] at hi
  refine ⟨M3, _, Ex.refl s4, rgD_get hi, ?_⟩
  have e2 : (0 : Int) + (i : Int) = ((0 + i : Nat) : Int) := by omega
  show De M3 (.int ((0 : Int) + (i : Int))) _
  rw [e2]
  exact .int _
theorem ei_rng2 {lo hi : Nat} (h : EdA T ta σ M [.int (lo : Int), .int (hi : Int)]) (h1 : lo ≤ 100000) (h2 : hi ≤ 100000) : EdI T (iRng2 ta) σ M (rgD lo (hi - lo)) := fun M1 H1 s o R q => h M1 H1 s o _ fun vs M2 H2 e2 dv => by
  obtain ⟨v, w, rfl, dv1, dw⟩ := dv.two
  cases dv1.int_of
  cases dw.int_of
  refine ⟨(lo : Int), (hi : Int), rfl, ⟨by omega, by omega, by omega, by omega⟩, ?_⟩
  have e : ((hi : Int) - (lo : Int)).toNat = hi - lo := by omega
  rw [e]
  have W : Walk (Itr (lo : Int) (hi - lo)) (rgD lo (hi - lo)).length (fun _ => True) (YFn fun i => .int ((lo : Int) + (i : Int))) := by rw [rgD_len]; exact walk_range
  refine q M2 H2 _ _ _ e2 W (fun _ _ => trivial) fun i M3 H3 x H4 s3 s4 hi y => ?_
  obtain ⟨rfl, rfl⟩ := y
  rw [rgD_len] at hi
  refine ⟨M3, _, Ex.refl s4, rgD_get hi, ?_⟩
  have e2 : (lo : Int) + (i : Int) = ((lo + i : Nat) : Int) := by omega
  show De M3 (.int ((lo : Int) + (i : Int))) _
  rw [e2]
  exact .int _
/-- a text's signs -/
def sgD (l : List Nat) : List PyData := l.map fun c => .str ⟨#[c]⟩
theorem ei_str {z : Str} (h : Ed T te σ M (.str z)) : EdI T (iStr te) σ M (sgD z.cps.toList) := fun M1 H1 s o R q => h M1 H1 s o _ fun v M2 H2 e2 dv => by
  cases dv.str_of
  refine ⟨z, rfl, ?_⟩
  have W : Walk (Its z) (sgD z.cps.toList).length (fun _ => True) (fun i H v H' => H' = H ∧ ∃ c, z.cps[i]? = some c ∧ v = .str ⟨#[c]⟩) := by
    have e : (sgD z.cps.toList).length = z.cps.size := by unfold sgD; simp
    rw [e]
    exact walk_str
  refine q M2 H2 _ _ _ e2 W (fun _ _ => trivial) fun i M3 H3 x H4 s3 s4 hi y => ?_
  obtain ⟨rfl, c, hc, rfl⟩ := y
  refine ⟨M3, _, Ex.refl s4, ?_, .str _⟩
  unfold sgD
  rw [List.getElem?_map, Array.getElem?_toList, hc]
  rfl
end

/-- a list at D, made since (M2, H2), not known yet: it holds out -/
structure Acc (T : List Addr) (M2 H2 : Hp) (D : Addr) (out : List PyData) (M' H' : Hp) (acc : List V) : Prop where
  d2 : H2 D = none
  m2 : Same M2 H2
  m : Same M2 M'
  o : Ok T M' H'
  g : Gr H2 H'
  fr : ∀ b, M' b ≠ none → M2 b ≠ none ∨ (H2 b = none ∧ b ≠ D)
  d : H' D = some (.lst acc)
  v : DeAll M' acc out
section
variable {T : List Addr} {M2 H2 M' H' M5 H5 : Hp} {D : Addr} {out : List PyData} {acc : List V}
theorem Acc.start (o : Ok T M2 H2) (h : H2 D = none) : Acc T M2 H2 D [] M2 (upd H2 D (.lst [])) [] :=
  ⟨h, o.s, Same.refl _, o.mut (Same.no o.s h) (notab_none h), Gr.new h, fun _ h => .inl h, upd_same, .nil⟩
theorem Acc.un (a : Acc T M2 H2 D out M' H' acc) : M' D = none := by
  cases q : M' D with
  | none => rfl
  | some ob =>
    rcases a.fr D (by rw [q]; simp) with z | ⟨_, z⟩
    · exact absurd (Same.no a.m2 a.d2) z
    · exact absurd rfl z
theorem Acc.step (a : Acc T M2 H2 D out M' H' acc) (e : Ex M' H' M5 H5) : Acc T M2 H2 D out M5 H5 acc :=
  ⟨a.d2, a.m2, a.m.trans e.m, a.o.ex e, a.g.trans e.h, (fun b hb => (e.fr b hb).elim (fun z => a.fr b z) fun z => .inr ⟨a.g.back z, fun q => by
      rw [q, a.d] at z
      cases z⟩), e.h.lst a.d, a.v.mono e.m⟩
theorem Acc.push (a : Acc T M2 H2 D out M' H' acc) {y : V} {d : PyData} (dy : De M' y d) : Acc T M2 H2 D (out ++ [d]) M' (upd H' D (.lst (acc ++ [y]))) (acc ++ [y]) :=
  ⟨a.d2, a.m2, a.m, a.o.mut a.un (notab_lst a.d), a.g.mut a.d2, a.fr, upd_same, a.v.snoc dy⟩
theorem Acc.fin (a : Acc T M2 H2 D out M' H' acc) : Ex M2 H2 (upd M' D (.lst acc)) H' ∧ De (upd M' D (.lst acc)) (.ref D) (.list out) := by
  have un := a.un
  refine ⟨⟨a.m.trans (Same.new un), a.g, fun b o h => ?_, fun b h => ?_⟩, .lst upd_same (a.v.mono (Same.new un))⟩
  · by_cases q : b = D
    · rw [q, upd_same] at h
      rw [q, a.d]
      exact h
    · rw [upd_ne q] at h
      exact a.o.s b o h
  · by_cases q : b = D
    · rw [q]
      exact .inr a.d2
    · rw [upd_ne q] at h
      rcases a.fr b h with z | ⟨z, _⟩
      · exact .inl z
      · exact .inr z
theorem Acc.lt (a : Acc T M2 H2 D out M' H' acc) (h : out.length < 100000) : acc.length < sizeLine := by
  rw [a.v.len]
  exact Nat.lt_of_lt_of_le h (by decide)
end

section
variable {T : List Addr} {σ : L2.St} {M : Hp} {te : TE} {tt : TT} {wi wi1 : TI} {g g1 : TG} {vs vs1 : List Nat} {ds : List PyData}
/-- a comprehension over data -/
theorem ed_lc (h : EdI T wi σ M ds) (hz : ds.length < 100000) (p : PyData → Bool) (f : PyData → PyData)
    (ht : ∀ d ∈ ds, ∀ x M1, Same M M1 → De M1 x d → ∃ σ2, (∀ (H1 : Hp) (Q : L2.St → Hp → Prop), Same M1 H1 → Q σ2 H1 → g x (wipe σ vs) H1 Q) ∧ wipe σ2 vs = wipe σ vs ∧ EdT T tt σ2 M1 (p d) ∧ (p d = true → Ed T te σ2 M1 (f d))) :
    Ed T (tLc wi g tt te vs) σ M (.list ((ds.filter p).map f)) := fun M1 H1 s o Q q => h M1 H1 s o _ fun M2 H2 J G Y e2 W hG hY D hD => by
  have o2 := o.ex e2
  refine lc_it W (fun i H' => ∃ M' acc, Acc T M2 H2 D (((ds.take i).filter p).map f) M' H' acc) ⟨M2, [], ?_⟩ (fun i H' _ ⟨M', acc, a⟩ => hG H' (a.m.trans a.o.s)) ?_ ?_
  · rw [List.take_zero]
    exact Acc.start o2 hD
  · rintro i x H' H4 hi ⟨M', acc, a⟩ y
    obtain ⟨M4, d, e4, hd, dx⟩ := hY i M' H' x H4 a.m a.o.s hi y
    have a4 := a.step e4
    have etake : ds.take (i + 1) = ds.take i ++ [d] := by rw [List.take_add_one, hd]; rfl
    obtain ⟨σ2, hg, hw, htt, hte⟩ := ht d (List.mem_of_getElem? hd) x M4 ((s.trans e2.m).trans a4.m) dx
    refine hg H4 _ a4.o.s ⟨hw, ?_⟩
    refine htt.go a4.o fun M5 H5 e5 o5 => ?_
    have a5 := a4.step e5
    rw [etake, List.filter_append, List.map_append]
    cases hp : p d with
    | false =>
      have e6 : List.map f (List.filter p [d]) = [] := by simp [hp]
      show ∃ M' acc, _
      rw [e6, List.append_nil]
      exact ⟨M5, acc, a5⟩
    | true =>
      have e6 : List.map f (List.filter p [d]) = [f d] := by simp [hp]
      rw [e6]
      refine ((hte hp).mono e5.m).go o5 fun y M6 H6 e6 o6 dy => ?_
      have a6 := a5.step e6
      refine ⟨acc, a6.d, a6.lt ?_, M6, acc ++ [y], a6.push dy⟩
      have h1 := List.length_filter_le p (ds.take i)
      have h2 := List.length_take_le i ds
      rw [List.length_map]
      have h3 : (List.take i ds).length ≤ ds.length := by rw [List.length_take]; omega
      omega
  · rintro H' ⟨M', acc, a⟩
    rw [List.take_length] at a
    exact q _ _ _ (e2.trans a.fin.1) a.fin.2
/-- two clauses, no tests -/
theorem ed_lc2 (h : EdI T wi σ M ds) (es : PyData → List PyData) (f : PyData → PyData → PyData) (hz : (ds.flatMap fun d => (es d).map (f d)).length < 100000)
    (ht : ∀ d ∈ ds, ∀ x M1, Same M M1 → De M1 x d → ∃ σ2, (∀ (H1 : Hp) (Q : L2.St → Hp → Prop), Same M1 H1 → Q σ2 H1 → g x (wipe σ vs) H1 Q) ∧ wipe σ2 vs = wipe σ vs ∧ EdI T wi1 σ2 M1 (es d) ∧
      ∀ e ∈ es d, ∀ y M2, Same M1 M2 → De M2 y e → ∃ σ3, (∀ (H1 : Hp) (Q : L2.St → Hp → Prop), Same M2 H1 → Q σ3 H1 → g1 y (wipe σ2 vs1) H1 Q) ∧ wipe σ3 vs1 = wipe σ2 vs1 ∧ Ed T te σ3 M2 (f d e)) :
    Ed T (tLc2 wi g tYes wi1 g1 tYes te vs vs1) σ M (.list (ds.flatMap fun d => (es d).map (f d))) := fun M1 H1 s o Q q => h M1 H1 s o _ fun M2 H2 J G Y e2 W hG hY D hD => by
  have o2 := o.ex e2
  refine ⟨fun i m H' => m = ds.length - i ∧ i ≤ ds.length ∧ ∃ M' acc, Acc T M2 H2 D ((ds.take i).flatMap fun d => (es d).map (f d)) M' H' acc, ⟨ds.length, by simp, Nat.zero_le _, M2, [], ?_⟩, ?_⟩
  · rw [List.take_zero]
    exact Acc.start o2 hD
  · rintro i m H' ⟨rfl, hi, M', acc, a⟩
    have G' := hG H' (a.m.trans a.o.s)
    by_cases hlt : i < ds.length
    · refine .inr ⟨W.goes i H' hlt G', fun H5 => ∃ M' acc, Acc T M2 H2 D ((ds.take (i + 1)).flatMap fun d => (es d).map (f d)) M' H5 acc, fun H5 p => ⟨ds.length - (i + 1), by omega, rfl, hlt, p⟩, fun x H4 y0 => ?_⟩
      obtain ⟨M4, d, e4, hd, dx⟩ := hY i M' H' x H4 a.m a.o.s hlt (W.yields i H' x H4 hlt G' y0)
      have a4 := a.step e4
      have etake : ds.take (i + 1) = ds.take i ++ [d] := by rw [List.take_add_one, hd]; rfl
      obtain ⟨σ2, hg, hw, hi2, hte⟩ := ht d (List.mem_of_getElem? hd) x M4 ((s.trans e2.m).trans a4.m) dx
      refine hg H4 _ a4.o.s ⟨hw, ?_⟩
      unfold tYes
      dsimp only
      rw [if_pos rfl]
      refine hi2 M4 H4 (Same.refl _) a4.o _ fun M5 H5 J1 G1 Y1 e5 W1 hG1 hY1 => ?_
      have a5 := a4.step e5
      have out1 : (ds.take (i + 1)).flatMap (fun d => (es d).map (f d)) = (ds.take i).flatMap (fun d => (es d).map (f d)) ++ (es d).map (f d) := by
        rw [etake, List.flatMap_append]
        simp
      rw [out1]
      refine ⟨fun j k H6 => k = (es d).length - j ∧ j ≤ (es d).length ∧ ∃ M6 acc, Same M5 M6 ∧ Acc T M2 H2 D ((ds.take i).flatMap (fun d => (es d).map (f d)) ++ ((es d).take j).map (f d)) M6 H6 acc, ⟨(es d).length, by simp, Nat.zero_le _, M5, acc, Same.refl _, ?_⟩, ?_⟩
      · rw [List.take_zero]
        simpa using a5
      · rintro j k H6 ⟨rfl, hj, M6, acc6, s6, a6⟩
        have G6 := hG1 H6 (s6.trans a6.o.s)
        by_cases hlt1 : j < (es d).length
        · refine .inr ⟨W1.goes j H6 hlt1 G6, fun H7 => ∃ M6 acc, Same M5 M6 ∧ Acc T M2 H2 D ((ds.take i).flatMap (fun d => (es d).map (f d)) ++ ((es d).take (j + 1)).map (f d)) M6 H7 acc, fun H7 p => ⟨(es d).length - (j + 1), by omega, rfl, hlt1, p⟩, fun x1 H7 y1 => ?_⟩
          obtain ⟨M7, e, e7, he, dx1⟩ := hY1 j M6 H6 x1 H7 s6 a6.o.s hlt1 (W1.yields j H6 x1 H7 hlt1 G6 y1)
          have a7 := a6.step e7
          obtain ⟨σ3, hg1, hw1, hte1⟩ := hte e (List.mem_of_getElem? he) x1 M7 ((e5.m.trans s6).trans e7.m) dx1
          refine hg1 H7 _ a7.o.s ⟨hw1, ?_⟩
          rw [if_pos rfl]
          refine Ed.go (d := f d e) hte1 a7.o fun z M8 H8 e8 o8 dz => ?_
          have a8 := a7.step e8
          have etake1 : (es d).take (j + 1) = (es d).take j ++ [e] := by rw [List.take_add_one, he]; rfl
          refine ⟨acc6, a8.d, a8.lt ?_, M8, acc6 ++ [z], (s6.trans e7.m).trans e8.m, ?_⟩
          · refine Nat.lt_of_le_of_lt ?_ hz
            have h1 : (ds.take i ++ [d]).flatMap (fun d => (es d).map (f d)) <+: ds.flatMap (fun d => (es d).map (f d)) := by
              rw [← etake]
              refine ⟨(ds.drop (i + 1)).flatMap (fun d => (es d).map (f d)), ?_⟩
              rw [← List.flatMap_append, List.take_append_drop]
            have h2 := h1.length_le
            rw [List.flatMap_append] at h2
            simp only [List.length_append, List.length_map, List.flatMap_singleton] at h2 ⊢
            have h3 : ((es d).take j).length ≤ (es d).length := by rw [List.length_take]; omega
            omega
          · have e9 : (List.take i ds).flatMap (fun d => (es d).map (f d)) ++ ((es d).take (j + 1)).map (f d) = ((List.take i ds).flatMap (fun d => (es d).map (f d)) ++ ((es d).take j).map (f d)) ++ [f d e] := by
              rw [etake1, List.map_append, List.append_assoc]
              rfl
            rw [e9]
            exact a8.push dz
        · have ej : j = (es d).length := by omega
          subst ej
          rw [List.take_length] at a6
          exact .inl ⟨W1.stops H6 G6, M6, acc6, a6⟩
    · have ei : i = ds.length := by omega
      subst ei
      rw [List.take_length] at a
      exact .inl ⟨W.stops H' G', q _ _ _ (e2.trans a.fin.1) a.fin.2⟩
/-- a for over data -/
theorem for_d {tb : TS} {D : Ends} {M1 H1 : Hp} (h : EdI T wi σ M1 ds) (o : Ok T M1 H1) (Pv : Nat → Hp → L2.St → Hp → Prop)
    (h0 : ∀ M2 H2, Ex M1 H1 M2 H2 → Pv 0 M2 σ H2)
    (hs : ∀ i d x M3 H3 M4 H4 σ3 (N : L2.St → Hp → Prop), ds[i]? = some d → Same M1 M3 → Ok T M3 H3 → Pv i M3 σ3 H3 → Ex M3 H3 M4 H4 → Ok T M4 H4 → De M4 x d →
      (∀ M5 σ5 H5, Same M4 M5 → Ok T M5 H5 → Pv (i + 1) M5 σ5 H5 → N σ5 H5) → g x σ3 H4 fun σ2 H2 => tb { D with nx := N, ct := N, bk := D.nx } σ2 H2)
    (hd : ∀ M5 σ5 H5, Same M1 M5 → Ok T M5 H5 → Pv ds.length M5 σ5 H5 → D.nx σ5 H5) : tFor wi g tb D σ H1 := by
  refine h M1 H1 (Same.refl _) o _ fun M2 H2 J G Y e2 W hG hY => ?_
  refine for_it W (fun i σ' H' => ∃ M', Same M2 M' ∧ Ok T M' H' ∧ Pv i M' σ' H') ⟨M2, Same.refl _, o.ex e2, h0 M2 H2 e2⟩ (fun i σ' H' _ ⟨M', s', o', _⟩ => hG H' (s'.trans o'.s)) ?_ ?_
  · rintro i x σ' H' H4 hi ⟨M', s', o', p⟩ y
    obtain ⟨M4, d, e4, hd', dx⟩ := hY i M' H' x H4 s' o'.s hi y
    exact hs i d x M' H' M4 H4 σ' _ hd' (e2.m.trans s') o' p e4 (o'.ex e4) dx fun M5 σ5 H5 s5 o5 p5 => ⟨M5, (s'.trans e4.m).trans s5, o5, p5⟩
  · rintro σ' H' ⟨M', s', o', p⟩
    exact hd M' σ' H' (e2.m.trans s') o' p
end
end Rb

set_option Elab.async false
set_option linter.all false
set_option maxRecDepth 100000
set_option maxHeartbeats 4000000
/-! ### built-ins on data -/
namespace Rb
open PySem L2 PySem.Spec PyProof.Rows
section
variable {X : Cx}
/-- x in t, x not in t, t a tuple of data -/
def rInT (K : PySem.W.Frag) (neg : Bool) : R2 := fun x y H Q => ∃ d ds, Dp K H x d ∧ Dp K H y (.tuple ds) ∧ SeqAt.shaped d = true ∧ SeqAt.shaped (.tuple ds) = true ∧ Q (.bl (if neg then !(ds.any fun z => PyData.eqv z d) else ds.any fun z => PyData.eqv z d)) H
theorem op_inT (hu : X.A.units + 65 < cLine) : OpR X (compareOp .In) (rInT X.K false) := by
  intro pins s σ H x y v u Q I rx ry h
  obtain ⟨d, ds, hd, he, sd, se, q⟩ := h
  obtain ⟨as, r1⟩ := Dp.reads I d x v hd rx
  obtain ⟨bs, r2⟩ := Dp.reads I (.tuple ds) y u he ry
  exact SeqAt.in_tuple_reads r2 r1 (SeqAt.canLay_of_shaped se) (SeqAt.canLay_of_shaped sd) (room_in_shaped sd hu) ⟨.bl _, H, I, rfl, q⟩
theorem op_niT (hu : X.A.units + 65 < cLine) : OpR X (compareOp .NotIn) (rInT X.K true) := by
  intro pins s σ H x y v u Q I rx ry h
  obtain ⟨d, ds, hd, he, sd, se, q⟩ := h
  obtain ⟨as, r1⟩ := Dp.reads I d x v hd rx
  obtain ⟨bs, r2⟩ := Dp.reads I (.tuple ds) y u he ry
  exact SeqAt.notIn_tuple_reads r2 r1 (SeqAt.canLay_of_shaped se) (SeqAt.canLay_of_shaped sd) (room_in_shaped sd hu) ⟨.bl _, H, I, rfl, q⟩
/-- s * n -/
def mulS (z : Str) (n : Nat) : Str := ⟨(List.replicate n z.cps.toList).flatten.toArray⟩
theorem foldl_arr (xs : Array Nat) : ∀ (k : Nat) (acc : Array Nat), (List.replicate k xs).foldl (· ++ ·) acc = (acc.toList ++ (List.replicate k xs.toList).flatten).toArray
  | 0, acc => by simp
  | k + 1, acc => by
    rw [List.replicate_succ, List.foldl_cons, foldl_arr xs k, List.replicate_succ, List.flatten_cons]
    simp
def rMulS : R2 := fun x y H Q => ∃ z n, x = .str z ∧ y = .int n ∧ z.length ≤ 1000 ∧ -1000 ≤ n ∧ n ≤ 1000 ∧ Q (.str (mulS z n.toNat)) H
theorem op_mulS : OpR X (binaryOp .Mult) rMulS := by
  intro pins s σ H x y v u Q I rx ry h
  obtain ⟨z, n, rfl, rfl, hz, h1, h2, q⟩ := h
  obtain ⟨t, rfl⟩ := rx
  obtain ⟨t', rfl⟩ := ry
  have fin : ∀ k tk, EP X pins σ Q (.str (mulS z n.toNat) tk) { s with toks := k } := fun k tk => ⟨.str _, H, I.tok _, ⟨_, rfl⟩, q⟩
  have hl : ∀ m : Nat, m ≤ 1000 → z.length * m ≤ sizeLine := fun m hm => Nat.le_trans (Nat.mul_le_mul hz hm) (by decide)
  refine PySem.P.mul_str ?_ (fun p1 p2 => ?_) (fun p1 p2 => ?_) ?_
  · have a1 : ¬ n < -(2 ^ 63) := by omega
    have a2 : ¬ n ≥ 2 ^ 63 := by omega
    rw [decide_eq_false a1, decide_eq_false a2]; rfl
  · have h3 : (1 : Int) ≤ n := by omega
    have h4 : (2 ^ 63 - 1 : Int) / n ≥ 1000 := by
      refine (Int.le_ediv_iff_mul_le (by omega)).mpr ?_
      omega
    have h5 : (z.length : Int) ≤ 1000 := by omega
    omega
  · have := hl n.toNat (by omega)
    unfold Builtin.Str.tooLong
    exact decide_eq_false (by omega)
  · by_cases p1 : n < 1
    · rw [if_pos p1]
      have e : mulS z n.toNat = Str.empty := by
        have e1 : n.toNat = 0 := by omega
        rw [e1]
        rfl
      refine ⟨by decide, ?_⟩
      have f := fin (s.toks + 1) s.toks
      rw [e] at f
      exact f
    · rw [if_neg p1]
      by_cases p2 : (n == 1 || z.length == 0) = true
      · rw [if_pos p2]
        have e : mulS z n.toNat = z := by
          unfold mulS
          rcases Bool.or_eq_true _ _ ▸ p2 with p2 | p2
          · have e1 : n.toNat = 1 := by
              have := eq_of_beq p2
              omega
            rw [e1]
            simp
          · have e2 : z.cps.toList = [] := by
              have := eq_of_beq p2
              have e3 : z.cps.size = 0 := this
              exact List.eq_nil_of_length_eq_zero (by simpa using e3)
            rw [e2]
            have e4 : (List.replicate n.toNat ([] : List Nat)).flatten = [] := by simp
            rw [e4]
            have e5 : z.cps = #[] := by
              apply Array.toList_inj.mp
              rw [e2]
            cases z
            simp only at e5
            subst e5
            rfl
        have f : EP X pins σ Q (.str z t) s := ⟨.str z, H, I, ⟨_, rfl⟩, by rw [e] at q; exact q⟩
        exact f
      · rw [if_neg p2]
        have e : (⟨(List.replicate n.toNat z.cps).foldl (· ++ ·) #[]⟩ : Str) = mulS z n.toNat := by
          rw [foldl_arr]
          unfold mulS
          simp
        rw [e]
        refine ⟨?_, fin _ _⟩
        have h6 : (mulS z n.toNat).length = n.toNat * z.length := by
          unfold mulS
          show (List.replicate n.toNat z.cps.toList).flatten.toArray.size = _
          rw [List.size_toArray]
          simp [List.length_flatten, Str.length]
        rw [h6, Nat.mul_comm]
        exact hl _ (by omega)
end
end Rb

set_option Elab.async false
set_option linter.all false
set_option maxRecDepth 100000
set_option maxHeartbeats 4000000
/-! ### min, max, sorted of lists of data -/
namespace Rb
open PySem L2 PySem.Spec PyProof.Rows
def rMinD (K : PySem.W.Frag) : List V → Hp → VK → Prop := fun vs H Q => ∃ (a : Addr) (xs : List V) (d : PyData) (ds : List PyData), vs = [V.ref a] ∧ SqL K H a xs ∧ DpAll K H xs (d :: ds) ∧ PySem.W.AlikeAll (d :: ds) ∧ PyData.depthAll (d :: ds) ≤ 64 ∧
  ∀ (i : Nat) (v : V), xs[i]? = some v → (d :: ds)[i]? = some (PySem.W.minD d ds) → Q v H
def rMaxD (K : PySem.W.Frag) : List V → Hp → VK → Prop := fun vs H Q => ∃ (a : Addr) (xs : List V) (d : PyData) (ds : List PyData), vs = [V.ref a] ∧ SqL K H a xs ∧ DpAll K H xs (d :: ds) ∧ PySem.W.AlikeAll (d :: ds) ∧ PyData.depthAll (d :: ds) ≤ 64 ∧
  ∀ (i : Nat) (v : V), xs[i]? = some v → (d :: ds)[i]? = some (PySem.W.maxD d ds) → Q v H
def rSortD (K : PySem.W.Frag) : List V → Hp → VK → Prop := fun vs H Q => ∃ (a : Addr) (xs : List V) (ds : List PyData), vs = [V.ref a] ∧ SqL K H a xs ∧ DpAll K H xs ds ∧ PySem.W.AllAlike ds ∧ PySem.W.Sortable ds ∧ (∀ d ∈ ds, d.depth ≤ 64) ∧
  ∀ (p : Addr) (ys : List V), H p = none → ys.length = ds.length → PySem.W.EachIs (fun y d => ∃ i : Nat, xs[i]? = some y ∧ ds[i]? = some d) ys (ds.mergeSort (PySem.W.dataLe false id)) → Q (.ref p) (upd H p (.lst ys))
theorem getD_get {α : Type} {l : List α} {i : Nat} {z : α} (h : i < l.length) : l[i]? = some (l.getD i z) := by
  rw [List.getD_eq_getElem?_getD, List.getElem?_eq_getElem h]
  rfl
section
variable {X : Cx}
theorem cr_minD (hc : X.calm = true) (hu : X.A.units + 66 < cLine) : CallR X (.builtin "min") (rMinD X.K) := by
  intro pins s σ H vs us Q I r h
  obtain ⟨a, xs, d, ds, rfl, hs, hd, ha, hz, q⟩ := h
  rw [Vals.ref1 r]
  obtain ⟨its, rv, hl, _⟩ := I.list hs
  obtain ⟨as, hr⟩ := Dp.readsAll I (d :: ds) xs its hd rv
  have hr' : PySem.ReadsAll s.heap its.toArray.toList (d :: ds) as := by simpa using hr
  have hn : its.toArray.size = ds.length + 1 := PySem.W.readsAll_len hr'
  refine call_min_walkH (PySem.W.iter_listW (A := X.A.in1) (I.ok.hd hc) hl.isList fun s₂ e W st hfp hw hk => ?_)
  refine ⟨_, _, _, _, _, _, _, s.heap, _, rfl, W, st, hfp, by omega, hw, hk, PySem.W.cmpIn_lt (A := X.A.in1) hr' ha (by show X.A.units + 1 + _ < _; omega), fun v s' hP m => ?_⟩
  obtain ⟨h', tk, rfl, hk'⟩ := PySem.W.moved_old e rfl m
  have e1 : its.toArray.size - 1 = ds.length := by omega
  obtain ⟨b1, e2⟩ := PySem.W.argBest_fold PySem.W.dataLt PyData.none d ds ds.length (Nat.le_refl _)
  rw [List.take_length] at e2
  rw [e1] at hP
  generalize hi : argBest (fun i j => PySem.W.dataLt ((d :: ds).getD i PyData.none) ((d :: ds).getD j PyData.none)) ds.length = i at hP b1 e2
  have hP2 : its[i]? = some v := by simpa using hP
  have hlen := rv.length
  have hi2 : i < xs.length := by rw [hlen]; exact (List.getElem?_eq_some_iff.mp hP2).1
  obtain ⟨u, hu1, ru⟩ := rv.get (List.getElem?_eq_getElem hi2)
  rw [hP2] at hu1
  cases hu1
  refine ⟨xs[i], H, I.kept (t' := tk) hk', ru, q i _ (List.getElem?_eq_getElem hi2) ?_⟩
  have hlt : i < (d :: ds).length := by simp; omega
  rw [getD_get (z := PyData.none) hlt, e2]
  rfl
theorem cr_maxD (hc : X.calm = true) (hu : X.A.units + 66 < cLine) : CallR X (.builtin "max") (rMaxD X.K) := by
  intro pins s σ H vs us Q I r h
  obtain ⟨a, xs, d, ds, rfl, hs, hd, ha, hz, q⟩ := h
  rw [Vals.ref1 r]
  obtain ⟨its, rv, hl, _⟩ := I.list hs
  obtain ⟨as, hr⟩ := Dp.readsAll I (d :: ds) xs its hd rv
  have hr' : PySem.ReadsAll s.heap its.toArray.toList (d :: ds) as := by simpa using hr
  have hn : its.toArray.size = ds.length + 1 := PySem.W.readsAll_len hr'
  refine call_max_walkH (PySem.W.iter_listW (A := X.A.in1) (I.ok.hd hc) hl.isList fun s₂ e W st hfp hw hk => ?_)
  refine ⟨_, _, _, _, _, _, _, s.heap, _, rfl, W, st, hfp, by omega, hw, hk, PySem.W.cmpIn_gt (A := X.A.in1) hr' ha (by show X.A.units + 1 + _ < _; omega), fun v s' hP m => ?_⟩
  obtain ⟨h', tk, rfl, hk'⟩ := PySem.W.moved_old e rfl m
  have e1 : its.toArray.size - 1 = ds.length := by omega
  obtain ⟨b1, e2⟩ := PySem.W.argBest_fold (fun x y => PySem.W.dataLt y x) PyData.none d ds ds.length (Nat.le_refl _)
  rw [List.take_length] at e2
  rw [e1] at hP
  generalize hi : argBest (fun i j => PySem.W.dataLt ((d :: ds).getD j PyData.none) ((d :: ds).getD i PyData.none)) ds.length = i at hP b1 e2
  have hP2 : its[i]? = some v := by simpa using hP
  have hlen := rv.length
  have hi2 : i < xs.length := by rw [hlen]; exact (List.getElem?_eq_some_iff.mp hP2).1
  obtain ⟨u, hu1, ru⟩ := rv.get (List.getElem?_eq_getElem hi2)
  rw [hP2] at hu1
  cases hu1
  refine ⟨xs[i], H, I.kept (t' := tk) hk', ru, q i _ (List.getElem?_eq_getElem hi2) ?_⟩
  have hlt : i < (d :: ds).length := by simp; omega
  rw [getD_get (z := PyData.none) hlt, e2]
  rfl
theorem vals_each {ds : List PyData} {xs : List V} {its : List Value} (rv : Vals xs its) : ∀ {out : List Value} {es : List PyData}, PySem.W.EachIs (fun v d => ∃ i : Nat, its[i]? = some v ∧ ds[i]? = some d) out es →
    ∃ ys : List V, Vals ys out ∧ PySem.W.EachIs (fun y d => ∃ i : Nat, xs[i]? = some y ∧ ds[i]? = some d) ys es
  | _, _, .nil => ⟨[], .nil, .nil⟩
  | _, _, .cons ⟨i, h1, h2⟩ t => by
    obtain ⟨ys, r, e⟩ := vals_each rv t
    have hi : i < xs.length := by rw [rv.length]; exact (List.getElem?_eq_some_iff.mp h1).1
    obtain ⟨u, hu, ru⟩ := rv.get (List.getElem?_eq_getElem hi)
    rw [h1] at hu
    cases hu
    exact ⟨xs[i] :: ys, .cons ru r, .cons ⟨i, List.getElem?_eq_getElem hi, h2⟩ e⟩
theorem each_self {R : Value → PyData → Prop} : ∀ {its : List Value} {ds : List PyData}, its.length = ds.length → (∀ (i : Nat) v d, its[i]? = some v → ds[i]? = some d → R v d) → PySem.W.EachIs R its ds
  | [], [], _, _ => .nil
  | v :: its, d :: ds, hl, h => .cons (h 0 v d rfl rfl) (each_self (by simpa using hl) fun i v' d' h1 h2 => h (i + 1) v' d' (by simpa using h1) (by simpa using h2))
theorem cr_sortD (hu : X.A.units + 70 < cLine) : CallR X (.builtin "sorted") (rSortD X.K) := by
  intro pins s σ H vs us Q I r h
  obtain ⟨a, xs, ds, rfl, hs, hd, ha, hk, hz, q⟩ := h
  rw [Vals.ref1 r]
  obtain ⟨its, rv, hl, hsz⟩ := I.list hs
  obtain ⟨as, hr⟩ := Dp.readsAll I ds xs its hd rv
  have hlen : its.length = ds.length := by
    have e := PySem.W.readsAll_len (vs := its.toArray) (by simpa using hr)
    simpa using e
  have er : PySem.W.EachIs (fun v b => ∃ as, PySem.Reads s.heap v (id b) as) its ds := PySem.W.readsAll_each (enc := id) (bs := ds) (as := as) (by rw [List.map_id]; exact hr)
  have e0 : PySem.W.EachIs (fun v d => ∃ i : Nat, its[i]? = some v ∧ ds[i]? = some d) its ds := each_self hlen fun i v d h1 h2 => ⟨i, h1, h2⟩
  refine PySem.W.sorted_data (enc := id) (bs := ds) hl.isList e0 er (by rw [List.map_id]; exact ha) (by rw [List.map_id]; exact hk) (by rw [← hlen, ← rv.length]; exact hsz) (fun b hb => by have := hz b hb; show X.A.units + 2 + b.depth < cLine; omega) fun out ho eo => ?_
  obtain ⟨ys, ry, ey⟩ := vals_each rv eo
  obtain ⟨ep, he'⟩ := PyProof.Rows.sortedAll_at s.heap its out.toArray
  have hys : ys.length = ds.length := by rw [ry.length, ho]
  refine ⟨.ref _, upd H (s.heap.objs.size + 1) (.lst ys), I.laid (t' := s.toks) (fun _ _ => PyProof.Rows.sortedAll_old) (Nat.le_succ _) ⟨by rw [hys, ← hlen, ← rv.length]; exact hsz, out, ep, ry, ?_⟩, rfl, q _ ys (I.hok.fresh (Nat.le_succ _)) hys ey⟩
  rw [he']
end
end Rb

set_option Elab.async false
set_option linter.all false
set_option maxRecDepth 100000
set_option maxHeartbeats 4000000
/-! ### enumerate of a text, of a tuple -/
namespace Rb
open PySem L2 PySem.Spec PyProof.Rows
open AutoSeq1 (wpAny_loadPart')
theorem meets_enum1 {v : Value} {o : Obj} {H : Heap → Prop} (B : Begins v o H) :
    Meets (Builtin.«enumerate.__new__» ⟨[.type "enumerate", v], []⟩) (fun _ R s => H s.heap ∧
      R (.ok (.ret (.ref (s.heap.push o).objs.size))) { s with heap := (s.heap.push o).push { cls := .type "enumerate", data := .fields #[.none, .bool false, .ref s.heap.objs.size, rawInt 0, .none, .none] } }) :=
  .of_wp fun prog w A R s h => by
    obtain ⟨hp, g, d, tk, os⟩ := s; obtain ⟨h1, h⟩ := h
    have hsub := sub_enumerate
    have q1 : ∀ {A' : Around} {E : Value → Shared → Prop} {Q : Value → Shared → Prop}, Q (.ref hp.objs.size) ⟨hp.push o, g, d, tk, os⟩ → wpAny (model prog w) A' (pyIter v) Q E ⟨hp, g, d, tk, os⟩ :=
      fun q => B.iter prog w _ _ ⟨hp, g, d, tk, os⟩ _ h1 q
    wp_walk using q1
    refine wpAny_stack_any fun st => wpAny_pure ?_
    split
    · rename_i c _ _ _ _ _
      cases (c == Value.type "enumerate")
      · wp_walk using q1
        exact ⟨_, rfl, h⟩
      · wp_walk using q1
        exact ⟨_, rfl, h⟩
    · wp_walk using q1
      exact ⟨_, rfl, h⟩
theorem call_enum1 {prog : Program} {w : World} {A : Around} {E : Value → Shared → Prop} {s : Shared} {v : Value} {o : Obj} {H : Heap → Prop} {Q : Value → Shared → Prop} (B : Begins v o H) (h1 : H s.heap)
    (h : ∀ h', IsEnum h' (s.heap.objs.size + 1) s.heap.objs.size 0 .none → h'.get? s.heap.objs.size = some o → h'.objs.size = s.heap.objs.size + 2 →
      (∀ b o, s.heap.get? b = some o → h'.get? b = some o) → Q (.ref (s.heap.objs.size + 1)) { s with heap := h' }) :
    wpAny (model prog w) A (call (.type "enumerate") [v]) Q E s := by
  refine callType_new F.called_enumerate (by decide) (F.typeCall_enumerate_1 _) (F.newCall_enumerate_1 _) (fun obj => F.args_object_init_2 obj _) F.entry_enumerate_new
    (meets_enum1 B) ⟨h1, ?_⟩
  have hz : (s.heap.push o).objs.size = s.heap.objs.size + 1 := Heap.size_push ..
  show _ ∧ _
  rw [hz]
  have he : IsEnum ((s.heap.push o).push { cls := .type "enumerate", data := .fields #[.none, .bool false, .ref s.heap.objs.size, rawInt 0, .none, .none] }) (s.heap.objs.size + 1) s.heap.objs.size 0 .none := by
    have := Heap.get?_push_size (s.heap.push o) (o := { cls := .type "enumerate", data := .fields #[.none, .bool false, .ref s.heap.objs.size, rawInt 0, .none, .none] }) rfl
    rw [hz] at this; exact this
  refine ⟨⟨_, he, rfl⟩, h _ he (Heap.get?_push_of_some _ (Heap.get?_push_size _ B.free)) (by rw [Heap.size_push, hz]) fun b o x => Heap.get?_push_of_some _ (Heap.get?_push_of_some _ x)⟩

/-- enumerate over a text -/
def IteS (x : Str) : It := ⟨fun i _ => i < x.cps.size, fun i H v H' => ∃ T c, v = .ref T ∧ H T = none ∧ H' = upd H T (.tup [.int (i : Nat), .str ⟨#[c]⟩]) ∧ x.cps[i]? = some c, fun i _ => i = x.cps.size⟩
theorem turn_enumS {P : Program} {w : World} {K : PySem.W.Frag} {elts : List Expr} {kk : Nat} {tpos : Pos} (x : Str) (t : Tok) (e it : Addr) :
    Turn P w K (.Tuple elts kk tpos) (IteS x) [e, it] e (fun i h => (∃ old, IsEnum h e it ((i : Nat) : Int) old) ∧ h.IsStrIter it (strIterType x) x t i ∧ e ≠ it) where
  mem := by simp
  obj := fun i h st b hb => by
    obtain ⟨⟨old, he⟩, ⟨o, ho, hc, hd⟩, _⟩ := st
    have e' : b = e ∨ b = it := by simpa using hb
    rcases e' with z | z
    · rw [z]; exact ⟨_, he, fun v q => nomatch q⟩
    · rw [z]; exact ⟨o, ho, fun v q => by rw [hd] at q; cases q⟩
  keep := fun i h h' st k => by
    obtain ⟨⟨old, he⟩, ⟨o, ho, r⟩, hne⟩ := st
    exact ⟨⟨old, k e (by simp) _ he⟩, ⟨o, k it (by simp) o ho, r⟩, hne⟩
  item := by
    intro X hP hw hK hc i pins s σ H E I hf st hg
    subst hP hw hK
    obtain ⟨⟨old, he⟩, hit, hne⟩ := st
    have hlt : i < x.cps.size := hg
    have hel : e < s.heap.objs.size := Heap.lt_size he
    have hil : it < s.heap.objs.size := by obtain ⟨_, q, _⟩ := hit; exact Heap.lt_size q
    refine wpAny_pyNext_enum_itemD (Draws.text (A := X.A.in1) (I.ok.hd hc) it x t) he hit hlt hne (by simpa using hne) fun u h' tk hu ho hit' hT hsz hk => ?_
    obtain ⟨c, tc, hcx, rfl⟩ := hu
    refine ⟨_, rfl, wpAny_letOwnedTupleGo_enum (s := { s with heap := h', toks := tk + 1 }) ho fun h'' he' sb => ?_⟩
    have hT2 : h''.get? s.heap.objs.size = some { cls := .type "tuple", data := .seq #[.int i tk, .str ⟨#[c]⟩ tc] } := (sb.2 _ (Nat.ne_of_gt hel)).trans hT
    have new : ObjOk X.prog X.w (upd H s.heap.objs.size (.tup [.int (i : Nat), .str ⟨#[c]⟩])) h'' s.heap.objs.size (.tup [.int (i : Nat), .str ⟨#[c]⟩]) :=
      ⟨by show 2 ≤ sizeLine; decide, [.int i tk, .str ⟨#[c]⟩ tc], .cons ⟨_, rfl⟩ (.cons ⟨_, rfl⟩ .nil), ⟨_, hT2, rfl, _, rfl⟩⟩
    have I1 : Inv X pins σ (upd H s.heap.objs.size (.tup [.int (i : Nat), .str ⟨#[c]⟩])) { s with heap := h'', toks := tk + 1 } :=
      I.turnedNew (ch := [e, it]) (fun b ob hb q => (sb.2 b (fun z => hb (by simp [z]))).trans (hk b ob (fun z => hb (by simp [z])) (fun z => hb (by simp [z])) q)) hf (Nat.le_refl _) new
    refine ⟨.ref s.heap.objs.size, _, I1, rfl, ⟨_, c, rfl, I.hok.fresh (Nat.le_refl _), rfl, hcx⟩, ⟨⟨.str ⟨#[c]⟩ tc, ?_⟩, ?_, hne⟩, fun b hb => ?_⟩
    · have e1 : ((i + 1 : Nat) : Int) = (i : Int) + 1 := by omega
      rw [e1]; exact he'
    · obtain ⟨o, q, r⟩ := hit'
      exact ⟨o, (sb.2 it (Ne.symm hne)).trans q, r⟩
    · have hb' : b < s.heap.objs.size := by
        have e' : b = e ∨ b = it := by simpa using hb
        rcases e' with z | z
        · rw [z]; exact hel
        · rw [z]; exact hil
      rw [upd_ne (Nat.ne_of_lt hb')]
      exact (hf b hb).1
  done := by
    intro X hP hw hK hc i pins s σ H E I hf st hg
    subst hP hw hK
    obtain ⟨⟨old, he⟩, hit, hne⟩ := st
    obtain ⟨f0, f1, f2, f3, f4, f5⟩ := hf it (by simp)
    have hle : i = x.cps.size := hg
    rw [hle] at hit
    exact wpAny_pyNext_enum_endD (Draws.text (A := X.A.in1) (I.ok.hd hc) it x t) he hit fun h' eb => ⟨rfl, I.turned (t' := s.toks) (fun b o hb q => eb b o hb q) f0 f1 f3 f4 f5⟩
  self := fun A i s Q E st h => let ⟨⟨_, he⟩, _⟩ := st; wpAny_pyIter_enum he h
def iEnumS (ta : TA) : TI := fun σ H R => ta σ H fun vs H1 => ∃ x, vs = [.str x] ∧ R (IteS x) H1
theorem pi_enumS {X : Cx} {e : Expr} {ta : TA} {p pos tpos : Pos} {elts : List Expr} {kk : Nat} (hg : Gl X "enumerate") (hm : X.mg "enumerate" = none) (ha : PA X [e] ta) (hs : starEach [e] X.env = [(false, eval e X.env)] := by rfl) :
    PI X (.Tuple elts kk tpos) (.Call (.Name "enumerate" p) [e] [] pos) (iEnumS ta) := by
  refine ⟨fun pins s σ H R I h => ?_⟩
  refine Call_ (ld_blt I hg hm boot_enumerate (PyProof.Rows.callWith_type1 (thn (ha.run pos pins s σ H _ I h) fun us s1 ⟨vs, H1, I1, r1, q1⟩ => ?_) hs rfl))
  obtain ⟨x, ex, q⟩ := q1
  subst ex
  obtain ⟨u, rfl, ru⟩ := vals1 r1
  obtain ⟨t, rfl⟩ := ru
  refine call_enumerate_str fun h' he hit hsz hk => wpAny_pyIter_enum he ?_
  have I2 : Inv X pins σ H1 { s1 with heap := h' } := I1.kept (t' := s1.toks) hk
  refine ⟨s1.heap.objs.size + 1, [s1.heap.objs.size + 1, s1.heap.objs.size], _, _, H1, rfl, I2, turn_enumS x t (s1.heap.objs.size + 1) s1.heap.objs.size, ⟨⟨.none, he⟩, hit, Nat.succ_ne_self _⟩, fun b hb => ?_, q⟩
  have e' : b = s1.heap.objs.size + 1 ∨ b = s1.heap.objs.size := by simpa using hb
  have hle : s1.heap.objs.size ≤ b := by
    rcases e' with z | z
    · rw [z]; exact Nat.le_add_right _ _
    · rw [z]; exact Nat.le_refl _
  exact I1.fpOk hle (I1.hok.fresh hle)

/-- enumerate over a tuple -/
def IteT (K : PySem.W.Frag) (a : Addr) : It :=
  ⟨fun i H => ∃ xs x, SqT K H a xs ∧ xs[i]? = some x, fun i H v H' => ∃ T x, v = .ref T ∧ H T = none ∧ H' = upd H T (.tup [.int (i : Nat), x]) ∧ ∀ xs, SqT K H a xs → xs[i]? = some x, fun i H => ∃ xs, SqT K H a xs ∧ i = xs.length⟩
theorem turn_enumT {P : Program} {w : World} {K : PySem.W.Frag} {elts : List Expr} {kk : Nat} {tpos : Pos} (a e it : Addr) :
    Turn P w K (.Tuple elts kk tpos) (IteT K a) [e, it] e (fun i h => (∃ old, IsEnum h e it ((i : Nat) : Int) old) ∧ h.IsTupleIter it a i ∧ e ≠ it) where
  mem := by simp
  obj := fun i h st b hb => by
    obtain ⟨⟨old, he⟩, ⟨o, ho, hc, hd⟩, _⟩ := st
    have e' : b = e ∨ b = it := by simpa using hb
    rcases e' with z | z
    · rw [z]; exact ⟨_, he, fun v q => nomatch q⟩
    · rw [z]; exact ⟨o, ho, fun v q => by rw [hd] at q; cases q⟩
  keep := fun i h h' st k => by
    obtain ⟨⟨old, he⟩, ⟨o, ho, r⟩, hne⟩ := st
    exact ⟨⟨old, k e (by simp) _ he⟩, ⟨o, k it (by simp) o ho, r⟩, hne⟩
  item := by
    intro X hP hw hK hc i pins s σ H E I hf st hg
    subst hP hw hK
    obtain ⟨⟨old, he⟩, hit, hne⟩ := st
    obtain ⟨xs, x, hq, hx⟩ := hg
    obtain ⟨its, rv, p, hz⟩ := I.tuple hq
    have hel : e < s.heap.objs.size := Heap.lt_size he
    have hil : it < s.heap.objs.size := by obtain ⟨_, q, _⟩ := hit; exact Heap.lt_size q
    have nae : a ≠ e := fun z => by
      obtain ⟨o, q, c, _⟩ := p
      rw [z, he] at q
      cases q
      exact absurd (Value.type.inj c) (by decide)
    have nai : a ≠ it := fun z => by
      obtain ⟨o, q, c, _⟩ := p
      obtain ⟨o2, q2, c2, _⟩ := hit
      rw [z, q2] at q
      cases q
      rw [c2] at c
      exact absurd (Value.type.inj c) (by decide)
    have hlt : i < its.toArray.size := by
      have := (List.getElem?_eq_some_iff.mp hx).1
      rw [rv.length] at this
      simpa using this
    refine wpAny_pyNext_enum_itemD (Draws.tuple (A := X.A.in1) (I.ok.hd hc) it a nai its.toArray) he ⟨hit, p⟩ hlt hne (by simp [hne, Ne.symm nae]) fun u h' tk hu ho hit' hT hsz hk => ?_
    have hu2 : its[i]? = some u := by simpa using hu
    obtain ⟨u', hu3, ru⟩ := rv.get hx
    rw [hu2] at hu3
    cases hu3
    refine ⟨_, rfl, wpAny_letOwnedTupleGo_enum (s := { s with heap := h', toks := tk + 1 }) ho fun h'' he' sb => ?_⟩
    have hT2 : h''.get? s.heap.objs.size = some { cls := .type "tuple", data := .seq #[.int i tk, u] } := (sb.2 _ (Nat.ne_of_gt hel)).trans hT
    have new : ObjOk X.prog X.w (upd H s.heap.objs.size (.tup [.int (i : Nat), x])) h'' s.heap.objs.size (.tup [.int (i : Nat), x]) :=
      ⟨by show 2 ≤ sizeLine; decide, [.int i tk, u], .cons ⟨_, rfl⟩ (.cons ru .nil), ⟨_, hT2, rfl, _, rfl⟩⟩
    have I1 : Inv X pins σ (upd H s.heap.objs.size (.tup [.int (i : Nat), x])) { s with heap := h'', toks := tk + 1 } :=
      I.turnedNew (ch := [e, it]) (fun b ob hb q => (sb.2 b (fun z => hb (by simp [z]))).trans (hk b ob (fun z => hb (by simp [z])) (fun z => hb (by simp [z])) q)) hf (Nat.le_refl _) new
    refine ⟨.ref s.heap.objs.size, _, I1, rfl, ⟨_, x, rfl, I.hok.fresh (Nat.le_refl _), rfl, fun ys hy => by rw [I.tuple_inj hy hq]; exact hx⟩, ⟨⟨u, ?_⟩, ?_, hne⟩, fun b hb => ?_⟩
    · have e1 : ((i + 1 : Nat) : Int) = (i : Int) + 1 := by omega
      rw [e1]; exact he'
    · obtain ⟨⟨o, q, r⟩, _⟩ := hit'
      exact ⟨o, (sb.2 it (Ne.symm hne)).trans q, r⟩
    · have hb' : b < s.heap.objs.size := by
        have e' : b = e ∨ b = it := by simpa using hb
        rcases e' with z | z
        · rw [z]; exact hel
        · rw [z]; exact hil
      rw [upd_ne (Nat.ne_of_lt hb')]
      exact (hf b hb).1
  done := by
    intro X hP hw hK hc i pins s σ H E I hf st hg
    subst hP hw hK
    obtain ⟨⟨old, he⟩, hit, hne⟩ := st
    obtain ⟨xs, hq, hx⟩ := hg
    obtain ⟨its, rv, p, hz⟩ := I.tuple hq
    obtain ⟨f0, f1, f2, f3, f4, f5⟩ := hf it (by simp)
    have nai : a ≠ it := fun z => by
      obtain ⟨o, q, c, _⟩ := p
      obtain ⟨o2, q2, c2, _⟩ := hit
      rw [z, q2] at q
      cases q
      rw [c2] at c
      exact absurd (Value.type.inj c) (by decide)
    have hle : i = its.toArray.size := by
      rw [hx, rv.length]
      simp
    rw [hle] at hit
    exact wpAny_pyNext_enum_endD (Draws.tuple (A := X.A.in1) (I.ok.hd hc) it a nai its.toArray) he ⟨hit, p⟩ fun h' eb => ⟨rfl, I.turned (t' := s.toks) (fun b o hb q => eb b o hb q) f0 f1 f3 f4 f5⟩
  self := fun A i s Q E st h => let ⟨⟨_, he⟩, _⟩ := st; wpAny_pyIter_enum he h
def iEnumT (K : PySem.W.Frag) (ta : TA) : TI := fun σ H R => ta σ H fun vs H1 => ∃ a xs, vs = [.ref a] ∧ SqT K H1 a xs ∧ R (IteT K a) H1
theorem pi_enumT {X : Cx} {e : Expr} {ta : TA} {p pos tpos : Pos} {elts : List Expr} {kk : Nat} (hg : Gl X "enumerate") (hm : X.mg "enumerate" = none) (ha : PA X [e] ta) (hs : starEach [e] X.env = [(false, eval e X.env)] := by rfl) :
    PI X (.Tuple elts kk tpos) (.Call (.Name "enumerate" p) [e] [] pos) (iEnumT X.K ta) := by
  refine ⟨fun pins s σ H R I h => ?_⟩
  refine Call_ (ld_blt I hg hm boot_enumerate (PyProof.Rows.callWith_type1 (thn (ha.run pos pins s σ H _ I h) fun us s1 ⟨vs, H1, I1, r1, q1⟩ => ?_) hs rfl))
  obtain ⟨a, xs, ex, hq, q⟩ := q1
  subst ex
  rw [Vals.ref1 r1]
  obtain ⟨its, rv, p', hz⟩ := I1.tuple hq
  refine call_enum1 (begins_tuple a its.toArray) p' fun h' he hit hsz hk => wpAny_pyIter_enum he ?_
  have I2 : Inv X pins σ H1 { s1 with heap := h' } := I1.kept (t' := s1.toks) hk
  refine ⟨s1.heap.objs.size + 1, [s1.heap.objs.size + 1, s1.heap.objs.size], _, _, H1, rfl, I2, turn_enumT a (s1.heap.objs.size + 1) s1.heap.objs.size, ⟨⟨.none, he⟩, ⟨_, hit, rfl, rfl⟩, Nat.succ_ne_self _⟩, fun b hb => ?_, q⟩
  have e' : b = s1.heap.objs.size + 1 ∨ b = s1.heap.objs.size := by simpa using hb
  have hle : s1.heap.objs.size ≤ b := by
    rcases e' with z | z
    · rw [z]; exact Nat.le_add_right _ _
    · rw [z]; exact Nat.le_refl _
  exact I1.fpOk hle (I1.hok.fresh hle)

/-! ### these walks, and calls, as data -/
def enD (ds : List PyData) : List PyData := (List.range ds.length).map fun i => .tuple [.int (i : Nat), ds.getD i .none]
theorem enD_len (ds : List PyData) : (enD ds).length = ds.length := by unfold enD; rw [List.length_map, List.length_range]
theorem enD_get {ds : List PyData} {i : Nat} {d : PyData} (h : ds[i]? = some d) : (enD ds)[i]? = some (.tuple [.int (i : Nat), d]) := by
  have hi : i < ds.length := (List.getElem?_eq_some_iff.mp h).1
  unfold enD
  rw [List.getElem?_map, List.getElem?_range hi]
  show some (PyData.tuple [.int (i : Nat), ds.getD i .none]) = _
  rw [List.getD_eq_getElem?_getD, h]
  rfl
theorem mem_enD {ds : List PyData} {d : PyData} (h : d ∈ enD ds) : ∃ (i : Nat) (e : PyData), ds[i]? = some e ∧ d = .tuple [.int (i : Nat), e] := by
  obtain ⟨i, hi, e⟩ := List.getElem_of_mem h
  rw [enD_len] at hi
  have h1 := enD_get (List.getElem?_eq_getElem hi)
  rw [List.getElem?_eq_getElem (by rw [enD_len]; exact hi)] at h1
  exact ⟨i, ds[i], List.getElem?_eq_getElem hi, by rw [← e]; exact Option.some.inj h1⟩
section
variable {T : List Addr} {σ : L2.St} {M : Hp} {te tl : TE} {ta : TA} {ds : List PyData} {K : PySem.W.Frag}
theorem ei_enumS {z : Str} (h : EdA T ta σ M [.str z]) : EdI T (iEnumS ta) σ M (enD (sgD z.cps.toList)) := fun M1 H1 s o R q => h M1 H1 s o _ fun vs M2 H2 e2 dv => by
  obtain ⟨v, rfl, dv1⟩ := dv.one
  cases dv1.str_of
  refine ⟨z, rfl, ?_⟩
  have el : (enD (sgD z.cps.toList)).length = z.cps.size := by rw [enD_len]; unfold sgD; simp
  have W : Walk (IteS z) (enD (sgD z.cps.toList)).length (fun _ => True) (fun i H v H' => ∃ T c, v = .ref T ∧ H T = none ∧ H' = upd H T (.tup [.int (i : Nat), .str ⟨#[c]⟩]) ∧ z.cps[i]? = some c) := by
    rw [el]
    exact ⟨fun i H hi _ => hi, fun H _ => rfl, fun i H x H' hi _ y => y⟩
  refine q M2 H2 _ _ _ e2 W (fun _ _ => trivial) fun i M3 H3 x H4 s3 s4 hi y => ?_
  obtain ⟨P, c, rfl, hP, rfl, hc⟩ := y
  refine ⟨upd M3 P (.tup [.int (i : Nat), .str ⟨#[c]⟩]), .tuple [.int (i : Nat), .str ⟨#[c]⟩], Ex.new s4 hP, ?_, .tup upd_same (.cons (.int _) (.cons (.str _) .nil))⟩
  refine enD_get ?_
  unfold sgD
  rw [List.getElem?_map, Array.getElem?_toList, hc]
  rfl
theorem ei_enumT (h : EdA T ta σ M [.tuple ds]) : EdI T (iEnumT K ta) σ M (enD ds) := fun M1 H1 s o R q => h M1 H1 s o _ fun vs M2 H2 e2 dv => by
  obtain ⟨v, rfl, dv1⟩ := dv.one
  obtain ⟨a, xs, rfl, h1, h2⟩ := dv1.tup_of
  refine ⟨a, xs, rfl, SqT.of (e2.mh _ _ h1), ?_⟩
  have el : (enD ds).length = xs.length := by rw [enD_len, h2.len]
  have W : Walk (IteT K a) (enD ds).length (fun H => SqT K H a xs) (fun i H v H' => ∃ T x, v = .ref T ∧ H T = none ∧ H' = upd H T (.tup [.int (i : Nat), x]) ∧ xs[i]? = some x) := by
    rw [el]
    exact ⟨fun i H hi g => ⟨xs, xs[i], g, List.getElem?_eq_getElem hi⟩, fun H g => ⟨xs, g, rfl⟩, fun i H x H' hi g ⟨T, y, e1, e2, e3, e4⟩ => ⟨T, y, e1, e2, e3, e4 xs g⟩⟩
  refine q M2 H2 _ _ _ e2 W (fun H3 s3 => SqT.of (s3 _ _ h1)) fun i M3 H3 x H4 s3 s4 hi y => ?_
  obtain ⟨P, y, rfl, hP, rfl, hy⟩ := y
  obtain ⟨d, hd, dy⟩ := h2.get hy
  have nP := Same.no s4 hP
  exact ⟨upd M3 P (.tup [.int (i : Nat), y]), .tuple [.int (i : Nat), d], Ex.new s4 hP, enD_get hd, .tup upd_same (.cons (.int _) (.cons ((dy.mono s3).mono (Same.new nP)) .nil))⟩
end
end Rb

set_option Elab.async false
set_option linter.all false
set_option maxRecDepth 100000
set_option maxHeartbeats 4000000
/-! ### all(x in y for x in e), e a list or a tuple of data, y a captured list or tuple -/
namespace Rb
open PySem L2 PySem.Spec PyProof.Rows
mutual
theorem reads_but {h h' : Heap} (k : ∀ b o, (o.cls = .type "list" ∨ o.cls = .type "tuple") → h.get? b = some o → h'.get? b = some o) : ∀ (d : PyData) (v : Value) (as : List Addr), d.canLay0 = true → PySem.Reads h v d as → PySem.Reads h' v d as
  | .none, _, _, _, r => by cases r; exact .none
  | .bool _, _, _, _, r => by cases r; exact .bool _
  | .int _, _, _, _, r => by cases r; exact .int _ _
  | .str _, _, _, _, r => by cases r; exact .str _ _
  | .list xs, _, _, hal, r => by
    cases r with
    | list h1 h2 h3 h4 => exact .list (k _ _ (.inl h2) h1) h2 h3 (readsAll_but k xs _ _ hal h4)
  | .tuple xs, _, _, hal, r => by
    cases r with
    | tuple h1 h2 h3 h4 => exact .tuple (k _ _ (.inr h2) h1) h2 h3 (readsAll_but k xs _ _ hal h4)
  | .dict _, _, _, hal, _ => absurd hal (by simp [PyData.canLay0])
theorem readsAll_but {h h' : Heap} (k : ∀ b o, (o.cls = .type "list" ∨ o.cls = .type "tuple") → h.get? b = some o → h'.get? b = some o) : ∀ (ds : List PyData) (vs : List Value) (as : List Addr), PyData.canLayAll0 ds = true → PySem.ReadsAll h vs ds as → PySem.ReadsAll h' vs ds as
  | [], _, _, _, r => by cases r; exact .nil
  | d :: ds, _, _, hal, r => by
    cases r with
    | cons h1 h2 =>
      have ha : d.canLay0 = true ∧ PyData.canLayAll0 ds = true := by simpa [PyData.canLayAll0] using hal
      exact .cons (reads_but k d _ _ ha.1 h1) (readsAll_but k ds _ _ ha.2 h2)
end

/-- the thing walked: a list or a tuple of the values its -/
def Src (P : Program) (w : World) (h : Heap) (xv : Value) (its : Array Value) : Prop :=
  ∃ (yl : Addr) (o : Obj) (St : Nat → Heap → Prop), yl < h.objs.size ∧ (∃ ob, h.get? yl = some ob ∧ ob.cls ≠ .none) ∧
    (∀ (A : Around) (E : Value → Shared → Prop) (s : Shared) (Q : Value → Shared → Prop), s.heap = h → Q (.ref h.objs.size) { s with heap := h.push o } → wpAny (model P w) A (pyIter xv) Q E s) ∧
    (∀ A' : Around, A'.handled = none → Walks P w A' h.objs.size [h.objs.size, yl] [h.objs.size] its.size (fun i v => its[i]? = some v) St) ∧ St 0 (h.push o)
theorem src_list {P : Program} {w : World} {h : Heap} {yl : Addr} {its : Array Value} (hl : h.IsList yl its) : Src P w h (.ref yl) its := by
  have hlt : yl < h.objs.size := by obtain ⟨_, e, _⟩ := hl; exact Heap.lt_size e
  refine ⟨yl, { cls := .type "list_iterator", data := .fields #[.ref yl, .int 0 0] }, fun i h => h.IsListIter _ yl i ∧ h.IsList yl its, hlt, ?_, fun A E s Q e q => ?_, fun A' hA => Walks.list hA _ _ (Nat.ne_of_lt hlt) _, ⟨_, Heap.get?_push_size _ rfl, rfl, rfl⟩, ?_⟩
  · obtain ⟨o, e, c, _⟩ := hl
    exact ⟨o, e, by rw [c]; exact fun z => nomatch z⟩
  · subst e
    exact wpAny_pyIter_list hl q
  · exact hl.push _
theorem src_tuple {P : Program} {w : World} {h : Heap} {yl : Addr} {its : Array Value} (hl : h.IsTuple yl its) : Src P w h (.ref yl) its := by
  have hlt : yl < h.objs.size := by obtain ⟨_, e, _⟩ := hl; exact Heap.lt_size e
  refine ⟨yl, { cls := .type "tuple_iterator", data := .fields #[.ref yl, .int 0 0] }, fun i h => h.IsTupleIter _ yl i ∧ h.IsTuple yl its, hlt, ?_, fun A E s Q e q => ?_, fun A' hA => Walks.tuple hA _ _ (Nat.ne_of_lt hlt) _, ⟨_, Heap.get?_push_size _ rfl, rfl, rfl⟩, ?_⟩
  · obtain ⟨o, e, c, _⟩ := hl
    exact ⟨o, e, by rw [c]; exact fun z => nomatch z⟩
  · subst e
    exact wpAny_pyIter_tuple hl q
  · exact hl.push _
section
variable {X : Cx} {pins : List (Addr × Obj)} {σ : L2.St} {H : Hp} {s : Shared}
/-- the generator g of n tests, ready to be walked -/
def Ready2 (X : Cx) (pins : List (Addr × Obj)) (σ : L2.St) (H1 : Hp) (P : Addr) (n : Nat) (tr : Nat → Bool) (g : Addr) (s5 : Shared) : Prop :=
  ∃ (fp wr : List Addr) (G : Array GenState → Array GenState → Prop) (F : Nat → Value → Prop) (St : Nat → Shared → Prop),
    WalksS X.prog X.w X.A.in1 g fp wr G n F St ∧ St 0 s5 ∧ TruthOf X.prog X.w X.A.in1 F tr ∧ ∀ s', Moved wr G s5 s' → ∃ H2, GxR.Tabbed P H1 H2 ∧ Inv X pins σ H2 s'
/-- what e and y are -/
def SrcD (K : PySem.W.Frag) (H1 : Hp) (v : V) (ds : List PyData) : Prop := ∃ (a : Addr) (xs : List V), v = .ref a ∧ (SqL K H1 a xs ∨ SqT K H1 a xs) ∧ DpAll K H1 xs ds
def memD (es : List PyData) (d : PyData) : Bool := es.any fun e => PyData.eqv e d
theorem gen_in {c P : Addr} {iter : Expr} {x y : Str} {px gpos p1 p2 p3 : Pos} {scope : Scope} {te : TE} {k j : Nat} {Q' : Value → Shared → Prop} {R : List PyData → List PyData → Hp → Prop}
    (hr : Room k X.A) (TB : GxR.TabB X.base X.mg c P) (hcode : X.env.code = .ref c) (S : GxR.GenS X.env scope x) (hi : PE X iter te)
    (hyN : X.N[j]? = some y) (hyc : X.env.scope.names.lookup y = some .cell) (hyf : scope.names.lookup y = some .free) (hcl : ∀ cells : List (Str × Addr), (cloFrom cells scope.names []).lookup y = some ((cells.lookup y).getD 0))
    (hdx : (x == ("__debug__" : Str)) = false) (hdy : (y == ("__debug__" : Str)) = false) (hcd : (y == ("__classdict__" : Str)) = false)
    (hs : ∀ v, genFold iter X.env v = pure v) (I : Inv X pins σ H s)
    (h : te σ H fun v H1 => ∃ (yv : V) (ds es : List PyData), σ[j]? = some (some yv) ∧ SrcD X.K H1 v ds ∧ (Dp X.K H1 yv (.list es) ∨ Dp X.K H1 yv (.tuple es)) ∧ SeqAt.shaped (.list es) = true ∧ SeqAt.shaped (.tuple es) = true ∧ (∀ d ∈ ds, SeqAt.shaped d = true) ∧ GxR.TabG H1 P ∧ R ds es H1)
    (hQ : ∀ ds es H1 g s5, R ds es H1 → Ready2 X pins σ H1 P ds.length (fun i => memD es (ds.getD i .none)) g s5 → Q' (.ref g) s5) :
    wpAny (model X.prog X.w) X.A (eval (.GeneratorExp (.Compare (.Name x p1) [.In] [.Name y p2] p3) [⟨.Name x px, iter, [], 0⟩] scope gpos) X.env) Q' X.xe s := by
  refine wpAny_GeneratorExp_walksQD hr.hd S.co (closure_ok S.free) S.cell S.dot S.loc S.kind (by have := hr.dp; omega) ?_ hs
  refine thn (hi.run pins s σ H _ I h) fun xv s1 ⟨v, H1, I1, r1, yv, ds, es, hyv, hsrc, hes, she, she2, shd, ⟨ps, hP, ht⟩, q1⟩ => ?_
  obtain ⟨a, xs, rfl, hsq, hds⟩ := hsrc
  obtain rfl : xv = Value.ref a := r1
  -- the source
  obtain ⟨its, as, hits, hrd, src⟩ : ∃ (its : List Value) (as : List Addr), its.length = ds.length ∧ PySem.ReadsAll s1.heap its ds as ∧ Src X.prog X.w s1.heap (.ref a) its.toArray := by
    rcases hsq with hsq | hsq
    · obtain ⟨its, rv, hl, _⟩ := I1.list hsq
      obtain ⟨as, hr'⟩ := Dp.readsAll I1 ds xs its hds rv
      exact ⟨its, as, by simpa using PySem.W.readsAll_len (vs := its.toArray) (by simpa using hr'), hr', src_list hl.isList⟩
    · obtain ⟨its, rv, hl, _⟩ := I1.tuple hsq
      obtain ⟨as, hr'⟩ := Dp.readsAll I1 ds xs its hds rv
      exact ⟨its, as, by simpa using PySem.W.readsAll_len (vs := its.toArray) (by simpa using hr'), hr', src_tuple hl⟩
  obtain ⟨yl, o, St0, hylt, ⟨oy, hoy, hoc⟩, hiter, hW, hst0⟩ := src
  -- the captured one
  obtain ⟨cy, uy, hcy, huy, hcell⟩ : ∃ (cy : Addr) (uy : Value), X.env.cells.lookup y = some cy ∧ RelV yv uy ∧ s1.heap.IsCell cy (some uy) := by
    obtain ⟨m, hn, hl⟩ := I1.loc
    obtain ⟨u, ru, lk⟩ := hl j y yv hyN hyv (.inr (.inl hyc))
    rcases lk with ⟨z, _⟩ | ⟨_, cc, e1, e2⟩
    · have z' : X.env.scope.names.lookup y = some .local := z
      rw [hyc] at z'
      cases z'
    · exact ⟨cc, u, e1, ru, e2⟩
  obtain ⟨bs, hyr⟩ : ∃ bs, PySem.Reads s1.heap uy (.list es) bs ∨ PySem.Reads s1.heap uy (.tuple es) bs := by
    rcases hes with hes | hes
    · obtain ⟨bs, r⟩ := Dp.reads I1 (.list es) yv uy hes huy
      exact ⟨bs, .inl r⟩
    · obtain ⟨bs, r⟩ := Dp.reads I1 (.tuple es) yv uy hes huy
      exact ⟨bs, .inr r⟩
  refine hiter X.A X.xe s1 _ rfl ?_
  have hPs : s1.heap.get? P = some { cls := .none, data := .fields ps } := I1.hok P _ hP
  have hPlt : P < s1.heap.objs.size := Heap.lt_size hPs
  have hP2 : (s1.heap.push o).get? P = some { cls := .none, data := .fields ps } := Heap.get?_push_of_some _ hPs
  have cd : PySem.W.CodeHd (s1.heap.push o) c P := TB.code.keeps fun b u e => Heap.get?_push_of_some _ (I1.bk b u e)
  have lim2 : (s1.heap.push o).NoLimit := I1.nolimit.push o
  have cont : ∀ (code : Value) (h3 : Heap) (tk : Nat) (ps' : Array Value), Heap.ExtBut P (s1.heap.push o) h3 → (s1.heap.push o).objs.size ≤ h3.objs.size → h3.get? P = some { cls := .none, data := .fields ps' } → (∃ more, ps' = ps ++ more) → TriplesOk ps'.toList →
      wpAny (model X.prog X.w) X.A (builtinsFor X.env.globals X.env.builtins) (fun bi s₄ =>
        ∃ Ia fp wr n₀ Pf St₀ pz F, Value.ref s1.heap.objs.size = .ref Ia ∧ (∀ A' : Around, A'.handled = none → Walks X.prog X.w A' Ia fp wr n₀ Pf St₀) ∧ St₀ 0 s₄.heap ∧ (∀ b ∈ fp, b < s₄.heap.objs.size) ∧ s₄.heap.NoLimit ∧ cStatics ∉ wr ∧
          (∀ href : Heap, (∀ b o, s₄.heap.get? b = some o → href.get? b = some o) →
            QuietGenD X.prog X.w (genEnv scope (cloFrom X.env.cells scope.names []) s₄.heap.objs.size code bi X.env) x [] (.Compare (.Name x p1) [.In] [.Name y p2] p3) (List.range s₄.heap.objs.size) wr Pf pz F href (X.A.depth + 1) (X.A.units + 8)) ∧
          (∀ a h₅ tk gs, gs.bare = true → s₄.heap.objs.size < a → h₅.objs.size = a + 1 → (∀ b o, s₄.heap.get? b = some o → h₅.get? b = some o) →
            WalksS X.prog X.w X.A.in4 a (a :: s₄.heap.objs.size :: List.range s₄.heap.objs.size) (s₄.heap.objs.size :: wr) (GenOnlyQ s₄.gens.size) (passing pz n₀ 0).length
              (fun j y => ∃ i, (passing pz n₀ 0)[j]? = some i ∧ F i y) (GenAt X.prog X.w X.A.in4 a s₄.gens.size s₄.heap.objs.size (List.range s₄.heap.objs.size) wr pz n₀ F) →
            GenAt X.prog X.w X.A.in4 a s₄.gens.size s₄.heap.objs.size (List.range s₄.heap.objs.size) wr pz n₀ F 0 { s₄ with gens := s₄.gens.push gs, toks := tk, heap := h₅ } →
            Q' (.ref a) { s₄ with gens := s₄.gens.push gs, toks := tk, heap := h₅ })) X.xe { s1 with heap := h3, toks := tk } := by
    intro code h3 tk ps' hx hsz hP3 hmore ht3
    obtain ⟨bm, ob, e1, e2, e3, e4, e5, e6, e7, e8⟩ := TB.bm
    have hcP : cStatics ≠ P := fun e => by
      obtain ⟨_, hns, _⟩ := I1.nolimit
      obtain ⟨o', es, ep, ho, hd, _⟩ := hns
      rw [e, hPs] at ho
      cases ho
      cases hd
    have hcl' : cStatics < s1.heap.objs.size := let ⟨_, hns, _⟩ := I1.nolimit; hns.lt
    have sz2 : (s1.heap.push o).objs.size = s1.heap.objs.size + 1 := Heap.size_push ..
    have keep3 : ∀ b u, b ≠ P → s1.heap.get? b = some u → h3.get? b = some u := fun b u hb e => hx b u hb (Heap.get?_push_of_some _ e)
    refine wpAny_builtinsFor (m := X.mg) (by rw [I1.ok.glob]; exact ((I1.mod.glob.keeps I1.bk).push o).extBut hx TB.gP) e1 e2 (keep3 _ _ e4 (I1.bk _ _ e5)) e6 e7 e8 ?_
    have hylP : yl ≠ P := fun z => by
      rw [z, hPs] at hoy
      cases hoy
      exact hoc rfl
    refine ⟨s1.heap.objs.size, [s1.heap.objs.size, yl], [s1.heap.objs.size], its.toArray.size, (fun i v => its.toArray[i]? = some v), St0, (fun _ => true),
      (fun i y => ∃ d, ds[i]? = some d ∧ y = .bool (memD es d)), rfl, hW, ?_, ?_, lim2.extBut hx hcP, ?_, ?_, ?_⟩
    · refine (hW X.A hr.hd).frame _ _ _ hst0 fun b hb u e => hx b u (fun z => ?_) e
      rcases List.mem_cons.mp hb with z2 | z2
      · exact Nat.ne_of_lt hPlt (z.symm.trans z2)
      · rcases List.mem_cons.mp z2 with z2 | z2
        · exact hylP (z2.symm.trans z)
        · cases z2
    · intro b hb
      rcases List.mem_cons.mp hb with z | z
      · rw [z]
        show s1.heap.objs.size < h3.objs.size
        omega
      · rcases List.mem_cons.mp z with z | z
        · rw [z]
          have e9 : s1.heap.objs.size ≤ h3.objs.size := by omega
          exact Nat.lt_of_lt_of_le hylt e9
        · cases z
    · intro z
      rcases List.mem_cons.mp z with z | z
      · exact Nat.ne_of_lt hcl' z
      · cases z
    · intro href hhref
      refine ⟨fun A' E' i v s₂ m₂ hA _ _ hPv hn hm hk => ?_, fun A' E' i v s₂ m₂ hA _ hU hPv hp hn hm hk => ?_⟩
      · simp only [List.forIn_nil]
        exact wpAny_pure ⟨rfl, GxR.keeps_refl _⟩
      · have kp : ∀ b u, b ≠ P → s1.heap.get? b = some u → s₂.heap.get? b = some u := fun b u hb e => by
          have hl := Heap.lt_size e
          have e3 := keep3 b u hb e
          refine hk b (List.mem_range.mpr ?_) (fun z => ?_) u (hhref b u e3)
          · show b < h3.objs.size
            exact Heap.lt_size e3
          · rcases List.mem_cons.mp z with z | z
            · exact Nat.ne_of_lt hl z
            · cases z
        have kc : ∀ b u, (u.cls = .type "list" ∨ u.cls = .type "tuple") → s1.heap.get? b = some u → s₂.heap.get? b = some u := fun b u hc e => kp b u (fun z => by
          rw [z, hPs] at e
          cases e
          rcases hc with z | z
          · cases z
          · cases z) e
        have hv2 : its[i]? = some v := by simpa using hPv
        obtain ⟨d, hd⟩ : ∃ d, ds[i]? = some d := ⟨ds[i]'(by rw [← hits]; exact (List.getElem?_eq_some_iff.mp hv2).1), List.getElem?_eq_getElem _⟩
        obtain ⟨cs, rvd, _, _, _⟩ := PySem.W.readsAll_at hrd i v hv2
        have egd : ds.getD i .none = d := by rw [List.getD_eq_getElem?_getD, hd]; rfl
        rw [egd] at rvd
        have sd := shd d (List.mem_of_getElem? hd)
        have rvd2 := reads_but kc d v cs (SeqAt.canLay_of_shaped sd) rvd
        have hcell2 : s₂.heap.IsCell cy (some uy) := by
          obtain ⟨oc, ho, hdta⟩ := hcell
          refine ⟨oc, kp cy oc (fun z => ?_) ho, hdta⟩
          rw [z, hPs] at ho
          cases ho
          cases hdta
        have hun := hr.un
        refine wpAny_Compare1 ?_
        refine wpAny_Name (wpAny_loadName_local S.kind S.loc hn hm ?_) hdx
        have hcl2 : (cloFrom X.env.cells scope.names []).lookup y = some cy := by rw [hcl, hcy]; rfl
        refine wpAny_Name (wpAny_loadName_free S.kind hyf hcl2 hcell2 ?_ hcd) hdy
        have fin : ∃ d', ds[i]? = some d' ∧ Value.bool (es.any fun e => PyData.eqv e d) = .bool (memD es d') := ⟨d, hd, rfl⟩
        rcases hyr with hyr | hyr
        · have r2 := reads_but kc (.list es) uy bs (SeqAt.canLay_of_shaped she) hyr
          exact SeqAt.in_list_reads r2 rvd2 (SeqAt.canLay_of_shaped she) (SeqAt.canLay_of_shaped sd) (room_in_shaped sd (by omega)) ⟨fin, GxR.keeps_refl _⟩
        · have r2 := reads_but kc (.tuple es) uy bs (SeqAt.canLay_of_shaped she2) hyr
          exact SeqAt.in_tuple_reads r2 rvd2 (SeqAt.canLay_of_shaped she2) (SeqAt.canLay_of_shaped sd) (room_in_shaped sd (by omega)) ⟨fin, GxR.keeps_refl _⟩
    · intro g h5 tk5 gs hgb hag hsz5 hk5 W5 hgat
      simp only [GxR.passing_true, List.length_range] at W5
      have hn5 : its.toArray.size = ds.length := by rw [List.size_toArray, hits]
      rw [hn5] at W5 hgat
      refine hQ ds es H1 g _ q1 ⟨_, _, _, _, _, W5.in4_1, hgat, ?_, fun s' hm => ?_⟩
      · intro j v sj Qj Ej hv hQj
        obtain ⟨i, hij, d, hd, rfl⟩ := hv
        obtain ⟨hj, ej⟩ := List.getElem?_eq_some_iff.mp hij
        rw [List.getElem_range] at ej
        subst ej
        have hQ2 : Qj (memD es (ds.getD j .none)) sj := hQj
        rw [show ds.getD j .none = d by rw [List.getD_eq_getElem?_getD, hd]; rfl] at hQ2
        exact wpAny_truthy_bool hQ2
      · obtain ⟨more, em⟩ := hmore
        have nwr : ∀ b u, s1.heap.get? b = some u → b ∉ h3.objs.size :: [s1.heap.objs.size] := fun b u e hb => by
          have hl := Heap.lt_size e
          rcases List.mem_cons.mp hb with z | z
          · rw [z] at hl
            have h9 : (h3.objs.size : Nat) < s1.heap.objs.size := hl
            omega
          · rcases List.mem_cons.mp z with z | z
            · rw [z] at hl
              exact Nat.lt_irrefl _ hl
            · cases z
        have J := GxR.inv_tab (more := more) (h' := s'.heap) (g' := s'.gens) (d' := s'.drawn) (t' := s'.toks) I1 hP (fun b u hb e => hm.heap b u (nwr b u e) (hk5 b u (keep3 b u hb e)))
          (by rw [← em]; exact hm.heap P _ (nwr P _ hPs) (hk5 P _ hP3)) (AllBare.movedS (I1.bare.push hgb) hm)
        rw [GxR.sh_eta s1 s' hm.os] at J
        refine ⟨upd H1 P (.tbl (ps ++ more)), ⟨⟨ps ++ more, upd_same, by rw [← em]; exact ht3⟩, fun b hb => upd_ne hb⟩, J⟩
  refine ⟨lim2, ?_⟩
  cases hf : codeAmong gpos ps.toList with
  | none =>
    refine wpAny_genexprCodeX hcode (cd.code hP2 ht) (cd.tab hP2) hf fun c' h' tk hx hge hlt hco' _ htab' _ => ?_
    obtain ⟨o1, vs, f1, tf, fl, tg, inF, tx, tt, op, _, _, _, _, _, _, _, _, _, htr, _⟩ := hco'
    exact cont _ h' tk _ hx (Nat.le_trans hge (Nat.le_of_lt hlt)) htab'.2 ⟨_, rfl⟩ htr
  | some cv =>
    refine wpAny_genexprCode_hit hcode (cd.code hP2 ht) hf ?_
    exact cont cv (s1.heap.push o) s1.toks ps (Heap.ExtBut.refl _ _) (Nat.le_refl _) hP2 ⟨#[], by simp⟩ ht

/-- all(x in y for x in e) -/
def tAllIn (K : PySem.W.Frag) (P : Addr) (j : Nat) (te : TE) : TE := fun σ H Q => te σ H fun v H1 => ∃ (yv : V) (ds es : List PyData), σ[j]? = some (some yv) ∧ SrcD K H1 v ds ∧ (Dp K H1 yv (.list es) ∨ Dp K H1 yv (.tuple es)) ∧ SeqAt.shaped (.list es) = true ∧ SeqAt.shaped (.tuple es) = true ∧ (∀ d ∈ ds, SeqAt.shaped d = true) ∧ GxR.TabG H1 P ∧
  ∀ H2, GxR.Tabbed P H1 H2 → Q (.bl (ds.all (memD es))) H2
theorem all_range (ds : List PyData) (f : PyData → Bool) : (List.range ds.length).all (fun i => f (ds.getD i .none)) = ds.all f := by
  rw [Bool.eq_iff_iff, List.all_eq_true, List.all_eq_true]
  constructor
  · intro h b hb
    obtain ⟨j, hj, e⟩ := List.getElem_of_mem hb
    have q := h j (List.mem_range.mpr hj)
    rw [List.getD_eq_getElem?_getD, List.getElem?_eq_getElem hj] at q
    rw [← e]
    exact q
  · intro h j hj
    have hj' := List.mem_range.mp hj
    rw [List.getD_eq_getElem?_getD, List.getElem?_eq_getElem hj']
    exact h _ (List.getElem_mem hj')
theorem pe_allIn {c P : Addr} {iter : Expr} {x y : Str} {px p pos gpos p1 p2 p3 : Pos} {scope : Scope} {te : TE} {k j : Nat}
    (hr : Room k X.A) (hg : Gl X "all") (hm : X.mg "all" = none) (hb : bootBuiltins "all" = some (.builtin "all")) (TB : GxR.TabB X.base X.mg c P) (hcode : X.env.code = .ref c) (S : GxR.GenS X.env scope x) (hi : PE X iter te)
    (hyN : X.N[j]? = some y) (hyc : X.env.scope.names.lookup y = some .cell) (hyf : scope.names.lookup y = some .free) (hcl : ∀ cells : List (Str × Addr), (cloFrom cells scope.names []).lookup y = some ((cells.lookup y).getD 0))
    (hdx : (x == ("__debug__" : Str)) = false) (hdy : (y == ("__debug__" : Str)) = false) (hcd : (y == ("__classdict__" : Str)) = false)
    (hs : ∀ v, genFold iter X.env v = pure v)
    (he : starEach [.GeneratorExp (.Compare (.Name x p1) [.In] [.Name y p2] p3) [⟨.Name x px, iter, [], 0⟩] scope gpos] X.env = (false, eval (.GeneratorExp (.Compare (.Name x p1) [.In] [.Name y p2] p3) [⟨.Name x px, iter, [], 0⟩] scope gpos) X.env) :: starEach [] X.env := by rfl) :
    PE X (.Call (.Name "all" p) [.GeneratorExp (.Compare (.Name x p1) [.In] [.Name y p2] p3) [⟨.Name x px, iter, [], 0⟩] scope gpos] [] pos) (tAllIn X.K P j te) := by
  refine ⟨fun pins s σ H Q I h => ?_⟩
  refine wpAny_Call_Name_kw (ld_blt I hg hm hb ?_)
  refine PyProof.Rows.callWith_builtin1 ?_ he (by rfl)
  rw [he]
  show wpAny _ _ (spliced ((false, eval (.GeneratorExp (.Compare (.Name x p1) [.In] [.Name y p2] p3) [⟨.Name x px, iter, [], 0⟩] scope gpos) X.env) :: backTo pos (starEach [] X.env))) _ _ s
  refine Calls.spliced_cons (gen_in (R := fun ds es H1 => ∀ H2, GxR.Tabbed P H1 H2 → Q (.bl (ds.all (memD es))) H2) hr TB hcode S hi hyN hyc hyf hcl hdx hdy hcd hs I h fun ds es H1 g s5 hR hG => ?_)
  obtain ⟨fp, wr, G, F, St, W, hst, htr, hI⟩ := hG
  refine Calls.spliced_nil ?_
  refine call_all_walkS (W.self 0 _ _ _ hst ⟨g, fp, wr, G, _, F, St, _, rfl, W, hst, htr, fun s' hmv => ?_⟩)
  obtain ⟨H2, hT, J⟩ := hI s' hmv
  refine ⟨.bl _, H2, J, rfl, ?_⟩
  rw [all_range ds (memD es)]
  exact hR H2 hT
end
end Rb

set_option Elab.async false
set_option linter.all false
set_option maxRecDepth 100000
set_option maxHeartbeats 4000000
/-! ### calls on data, the promise of a def on data -/
namespace Rb
open PySem L2 PySem.Spec PyProof.Rows
theorem Ex.junk {M H : Hp} {p : Addr} {o : HO} (s : Same M H) (h : H p = none) : Ex M H M (upd H p o) := ⟨Same.refl _, Gr.new h, Same.mut s (Same.no s h), fun _ q => .inl q⟩
/-- the type of a datum -/
def tyD : PyData → String
  | .none => "NoneType"
  | .bool _ => "bool"
  | .int _ => "int"
  | .str _ => "str"
  | .list _ => "list"
  | .tuple _ => "tuple"
  | .dict _ => "dict"
theorem De.ty {K : PySem.W.Frag} {M : Hp} {v : V} : ∀ {d : PyData}, De M v d → TyX K M v (.type (tyD d))
  | .none, h => by cases h; exact .base .non
  | .bool b, h => by cases h; exact .base (.bl b)
  | .int i, h => by cases h; exact .base (.int i)
  | .str x, h => by cases h; exact .base (.str x)
  | .list ds, h => by
    cases h with
    | lst h1 h2 => exact .base (.lst h1)
  | .tuple ds, h => by
    cases h with
    | tup h1 h2 => exact .base (.tup h1)
  | .dict _, h => by cases h
section
variable {T : List Addr} {σ : L2.St} {M : Hp} {ta tb tc te tl : TE} {K : PySem.W.Frag} {d d1 d2 d3 : PyData} {ds es : List PyData}
theorem ed_isi {n : String} {b : Bool} (h : Ed T te σ M d) (hb : kitB (tyD d) n = some b) : Ed T (tCB (rIsi K) (tCons te (tCons (tC (.ty n)) tNil))) σ M (.bool b) := fun M1 H1 s o Q q => h M1 H1 s o _ fun v M2 H2 e2 dv =>
  ⟨v, .ty n, _, .type n, b, rfl, .ty n, (dv.mono e2.mh).ty, kit_ty hb, q _ M2 H2 e2 (.bl _)⟩
theorem ed_isiT {n m : String} {b c : Bool} (h : Ed T te σ M d) (hb : kitB (tyD d) n = some b) (hc : kitB (tyD d) m = some c) :
    Ed T (tCB (rIsiT K) (tCons te (tCons (tTup (tCons (tC (.ty n)) (tCons (tC (.ty m)) tNil))) tNil))) σ M (.bool (b || c)) := fun M1 H1 s o Q q => h M1 H1 s o _ fun v M2 H2 e2 dv => by
  refine ⟨by show 2 ≤ sizeLine; decide, fun p hp => ?_⟩
  have e3 : Ex M2 H2 M2 (upd H2 p (.tup [.ty n, .ty m])) := Ex.junk e2.mh hp
  refine ⟨v, p, [.ty n, .ty m], _, [.type n, .type m], b || c, rfl, upd_same, .cons (.ty n) (.cons (.ty m) .nil), (dv.mono e3.mh).ty, ?_, q _ M2 _ (e2.trans e3) (.bl _)⟩
  refine kitAny_cons (kit_ty hb) (fun hb0 => ?_) (fun hb1 => by rw [hb1]; rfl)
  rw [hb0, Bool.false_or]
  exact kitAny_cons (kit_ty hc) (fun hc0 => by rw [hc0]; exact kitAny_nil) fun hc1 => hc1
theorem rdc_lenL : Rdc (fun xs H Q => ∃ p ys, xs = [.ref p] ∧ (SqL K H p ys ∨ SqT K H p ys) ∧ Q (.int ys.length) H) [.list ds] (.int ds.length) := fun vs M H Q s dv q => by
  obtain ⟨v, rfl, dv1⟩ := dv.one
  obtain ⟨a, xs, rfl, h1, h2⟩ := dv1.lst_of
  refine ⟨a, xs, rfl, .inl (SqL.of (s _ _ h1)), ?_⟩
  rw [h2.len]
  exact q _ M H (Ex.refl s) (.int _)
theorem rdc_lenT : Rdc (fun xs H Q => ∃ p ys, xs = [.ref p] ∧ (SqL K H p ys ∨ SqT K H p ys) ∧ Q (.int ys.length) H) [.tuple ds] (.int ds.length) := fun vs M H Q s dv q => by
  obtain ⟨v, rfl, dv1⟩ := dv.one
  obtain ⟨a, xs, rfl, h1, h2⟩ := dv1.tup_of
  refine ⟨a, xs, rfl, .inr (SqT.of (s _ _ h1)), ?_⟩
  rw [h2.len]
  exact q _ M H (Ex.refl s) (.int _)
theorem rdc_lenS {z : Str} (hz : z.length ≤ sizeLine) : Rdc (fun xs H Q => ∃ z, xs = [.str z] ∧ z.length ≤ sizeLine ∧ Q (.int z.length) H) [.str z] (.int z.length) := fun vs M H Q s dv q => by
  obtain ⟨v, rfl, dv1⟩ := dv.one
  exact ⟨z, by rw [dv1.str_of], hz, q _ M H (Ex.refl s) (.int _)⟩
theorem rdc_tup : Rdc (fun xs H Q => ∃ p ys, xs = [.ref p] ∧ ((SqL K H p ys ∧ ∀ l, H l = none → Q (.ref l) (upd H l (.tup ys))) ∨ (SqT K H p ys ∧ Q (.ref p) H))) [.list ds] (.tuple ds) := fun vs M H Q s dv q => by
  obtain ⟨v, rfl, dv1⟩ := dv.one
  obtain ⟨a, xs, rfl, h1, h2⟩ := dv1.lst_of
  exact ⟨a, xs, rfl, .inl ⟨SqL.of (s _ _ h1), fun l hl => q _ _ _ (Ex.new s hl) (.tup upd_same (h2.mono (Same.new (Same.no s hl))))⟩⟩
theorem rdc_int1 {i : Int} : Rdc (fun xs H Q => (∃ i, xs = [.int i] ∧ Q (.int i) H) ∨ ∃ k, xs = [.bl k] ∧ Q (.int (if k then 1 else 0)) H) [.int i] (.int i) := fun vs M H Q s dv q => by
  obtain ⟨v, rfl, dv1⟩ := dv.one
  exact .inl ⟨i, by rw [dv1.int_of], q _ M H (Ex.refl s) (.int _)⟩
theorem rdc_min {d : PyData} {ds : List PyData} (ha : PySem.W.AlikeAll (d :: ds)) (hz : PyData.depthAll (d :: ds) ≤ 64) : Rdc (rMinD K) [.list (d :: ds)] (PySem.W.minD d ds) := fun vs M H Q s dv q => by
  obtain ⟨v, rfl, dv1⟩ := dv.one
  obtain ⟨a, xs, rfl, h1, h2⟩ := dv1.lst_of
  refine ⟨a, xs, d, ds, rfl, SqL.of (s _ _ h1), DeAll.dp _ _ (h2.mono s), ha, hz, fun i v h3 h4 => ?_⟩
  obtain ⟨d', h5, h6⟩ := h2.get h3
  rw [h4] at h5
  cases h5
  exact q v M H (Ex.refl s) h6
theorem rdc_max {d : PyData} {ds : List PyData} (ha : PySem.W.AlikeAll (d :: ds)) (hz : PyData.depthAll (d :: ds) ≤ 64) : Rdc (rMaxD K) [.list (d :: ds)] (PySem.W.maxD d ds) := fun vs M H Q s dv q => by
  obtain ⟨v, rfl, dv1⟩ := dv.one
  obtain ⟨a, xs, rfl, h1, h2⟩ := dv1.lst_of
  refine ⟨a, xs, d, ds, rfl, SqL.of (s _ _ h1), DeAll.dp _ _ (h2.mono s), ha, hz, fun i v h3 h4 => ?_⟩
  obtain ⟨d', h5, h6⟩ := h2.get h3
  rw [h4] at h5
  cases h5
  exact q v M H (Ex.refl s) h6
theorem each_de {M : Hp} {xs : List V} {ds : List PyData} (h : DeAll M xs ds) : ∀ {ys : List V} {es : List PyData}, PySem.W.EachIs (fun y d => ∃ i : Nat, xs[i]? = some y ∧ ds[i]? = some d) ys es → DeAll M ys es
  | _, _, .nil => .nil
  | _, _, .cons ⟨i, h1, h2⟩ t => by
    obtain ⟨d', h5, h6⟩ := h.get h1
    rw [h2] at h5
    cases h5
    exact .cons h6 (each_de h t)
theorem rdc_sort (ha : PySem.W.AllAlike ds) (hk : PySem.W.Sortable ds) (hz : ∀ d ∈ ds, d.depth ≤ 64) : Rdc (rSortD K) [.list ds] (.list (ds.mergeSort (PySem.W.dataLe false id))) := fun vs M H Q s dv q => by
  obtain ⟨v, rfl, dv1⟩ := dv.one
  obtain ⟨a, xs, rfl, h1, h2⟩ := dv1.lst_of
  refine ⟨a, xs, ds, rfl, SqL.of (s _ _ h1), DeAll.dp _ _ (h2.mono s), ha, hk, hz, fun p ys hp hl he => ?_⟩
  exact q _ _ _ (Ex.new s hp) (.lst upd_same ((each_de h2 he).mono (Same.new (Same.no s hp))))
theorem rd_mulS {z : Str} {n : Nat} (h1 : z.length ≤ 1000) (h2 : n ≤ 1000) : Rd2 rMulS (.str z) (.int (n : Int)) (.str (mulS z n)) := fun x y M H Q s dx dy q => by
  rw [dx.str_of, dy.int_of]
  exact ⟨z, n, rfl, rfl, h1, by omega, by omega, q _ M H (Ex.refl s) (.str _)⟩
theorem rd_addS {i j : Str} (hl : i.length + j.length ≤ sizeLine) : Rd2 (fun x y H Q => ∃ i j, x = .str i ∧ y = .str j ∧ i.length + j.length ≤ sizeLine ∧ Q (.str (i ++ j)) H) (.str i) (.str j) (.str (i ++ j)) := fun x y M H Q s dx dy q => by
  rw [dx.str_of, dy.str_of]
  exact ⟨i, j, rfl, rfl, hl, q _ M H (Ex.refl s) (.str _)⟩
theorem rd_inT (h1 : SeqAt.shaped d = true) (h2 : SeqAt.shaped (.tuple ds) = true) : Rd2 (rInT K false) d (.tuple ds) (.bool (memD ds d)) := fun x y M H Q s dx dy q =>
  ⟨d, ds, De.dp _ _ (dx.mono s), De.dp _ _ (dy.mono s), h1, h2, q _ M H (Ex.refl s) (.bl _)⟩
theorem rd_niT (h1 : SeqAt.shaped d = true) (h2 : SeqAt.shaped (.tuple ds) = true) : Rd2 (rInT K true) d (.tuple ds) (.bool (!memD ds d)) := fun x y M H Q s dx dy q =>
  ⟨d, ds, De.dp _ _ (dx.mono s), De.dp _ _ (dy.mono s), h1, h2, q _ M H (Ex.refl s) (.bl _)⟩
theorem ed_chain {op1 op2 : Int → Int → Bool} {i j k : Int} (ha : Ed T ta σ M (.int i)) (hb : Ed T tb σ M (.int j)) (hc : Ed T tc σ M (.int k)) :
    Ed T (tChain (rI0 fun i j => .bl (op1 i j)) (rI0 fun i j => .bl (op2 i j)) ta tb tc) σ M (.bool (op1 i j && op2 j k)) := fun M1 H1 s o Q q =>
  ha M1 H1 s o _ fun x M2 H2 e2 dx => hb M2 H2 (s.trans e2.m) (o.ex e2) _ fun y M3 H3 e3 dy => by
    refine ⟨i, j, dx.int_of, dy.int_of, op1 i j, rfl, ?_⟩
    cases hh : op1 i j with
    | true =>
      rw [hh, Bool.true_and] at q
      refine iteT ?_
      refine hc M3 H3 ((s.trans e2.m).trans e3.m) ((o.ex e2).ex e3) _ fun z M4 H4 e4 dz => ?_
      exact ⟨j, k, dy.int_of, dz.int_of, q _ M4 H4 ((e2.trans e3).trans e4) (.bl _)⟩
    | false =>
      rw [hh, Bool.false_and] at q
      refine iteF ?_
      exact q _ M3 H3 (e2.trans e3) (.bl _)
theorem ed_sliceT {k : Nat} (h : Ed T te σ M (.tuple ds)) (hk : Ed T tb σ M (.int (k : Int))) (hlt : k < ds.length) : Ed T (tSl (rSlT K) te tNoPart (tPart tb)) σ M (.tuple (ds.take k)) := fun M1 H1 s o Q q =>
  h M1 H1 s o _ fun x M2 H2 e2 dx => hk M2 H2 (s.trans e2.m) (o.ex e2) _ fun y M3 H3 e3 dy => by
    obtain ⟨a, xs, rfl, h1, h2⟩ := (dx.mono e3.m).tup_of
    refine ⟨(k : Int), dy.int_of, a, xs, rfl, SqT.of (e3.mh _ _ h1), ?_, fun p hp => ?_⟩
    · rintro ⟨_, z⟩
      rw [HT.sIx_nat] at z
      rw [h2.len] at z
      omega
    · have ec : cutV xs none (some (k : Int)) = xs.take k := by
        unfold cutV
        rw [HT.sIx_none, HT.sIx_nat, List.drop_zero, h2.len]
        congr 1
        omega
      rw [ec]
      refine q _ _ _ ((e2.trans e3).trans (Ex.new e3.mh hp)) (.tup upd_same ?_)
      have ht : ∀ (n : Nat) {vs : List V} {es : List PyData}, DeAll M3 vs es → DeAll M3 (vs.take n) (es.take n) := by
        intro n
        induction n with
        | zero => intro vs es _; rw [List.take_zero, List.take_zero]; exact .nil
        | succ n ih =>
          intro vs es hv
          cases hv with
          | nil => exact .nil
          | cons r t => exact .cons r (ih t)
      exact (ht k h2).mono (Same.new (Same.no e3.mh hp))
theorem ed_revL (h : Ed T te σ M (.list ds)) : Ed T (tRevL K te) σ M (.list ds.reverse) := fun M1 H1 s o Q q => h M1 H1 s o _ fun x M2 H2 e2 dx => by
  obtain ⟨a, xs, rfl, h1, h2⟩ := dx.lst_of
  exact ⟨a, xs, rfl, SqL.of (e2.mh _ _ h1), fun p hp => q _ _ _ (e2.trans (Ex.new e2.mh hp)) (.lst upd_same (h2.rev.mono (Same.new (Same.no e2.mh hp))))⟩
theorem ed_allIn {P : Addr} {j : Nat} {yv : V} (hP : P ∈ T) (h : Ed T te σ M (.list ds) ∨ Ed T te σ M (.tuple ds)) (hj : σ[j]? = some (some yv)) (hy : De M yv (.list es) ∨ De M yv (.tuple es)) (s1 : SeqAt.shaped (.list es) = true) (s2 : SeqAt.shaped (.tuple es) = true) (s3 : ∀ d ∈ ds, SeqAt.shaped d = true) :
    Ed T (tAllIn K P j te) σ M (.bool (ds.all (memD es))) := fun M1 H1 s o Q q => by
  have fin : ∀ v M2 H2, Ex M1 H1 M2 H2 → SrcD K H2 v ds → ∃ (yv : V) (ds es : List PyData), σ[j]? = some (some yv) ∧ SrcD K H2 v ds ∧ (Dp K H2 yv (.list es) ∨ Dp K H2 yv (.tuple es)) ∧ SeqAt.shaped (.list es) = true ∧ SeqAt.shaped (.tuple es) = true ∧ (∀ d ∈ ds, SeqAt.shaped d = true) ∧ GxR.TabG H2 P ∧
      ∀ H3, GxR.Tabbed P H2 H3 → Q (.bl (ds.all (memD es))) H3 := fun v M2 H2 e2 sd => by
    have o2 := o.ex e2
    refine ⟨yv, ds, es, hj, sd, ?_, s1, s2, s3, o2.t P hP, fun H3 ht => q _ M2 H3 (e2.trans (Ex.tabbed e2.mh (o2.n P hP) (o2.t P hP) ht)) (.bl _)⟩
    have s' := (s.trans e2.m).trans e2.mh
    rcases hy with hy | hy
    · exact .inl (De.dp _ _ (hy.mono s'))
    · exact .inr (De.dp _ _ (hy.mono s'))
  rcases h with h | h
  · refine h M1 H1 s o _ fun v M2 H2 e2 dv => fin v M2 H2 e2 ?_
    obtain ⟨a, xs, rfl, h1, h2⟩ := dv.lst_of
    exact ⟨a, xs, rfl, .inl (SqL.of (e2.mh _ _ h1)), DeAll.dp _ _ (h2.mono e2.mh)⟩
  · refine h M1 H1 s o _ fun v M2 H2 e2 dv => fin v M2 H2 e2 ?_
    obtain ⟨a, xs, rfl, h1, h2⟩ := dv.tup_of
    exact ⟨a, xs, rfl, .inr (SqT.of (e2.mh _ _ h1)), DeAll.dp _ _ (h2.mono e2.mh)⟩

/-- a def's promise on data: of arguments ds it returns d, where R ds d -/
def spD (T : List Addr) (n : Nat) (R : List PyData → PyData → Prop) : Sp := fun vs H Q _ => ∃ M ds d, ds.length = n ∧ R ds d ∧ Ok T M H ∧ DeAll M vs ds ∧ ∀ v M2 H2, Ex M H M2 H2 → De M2 v d → Q v H2
theorem spD_len {n : Nat} {R : List PyData → PyData → Prop} {vs : List V} {H : Hp} {Q : VK} {E : XK} (h : spD T n R vs H Q E) : vs.length = n := by
  obtain ⟨M, ds, d, hl, _, _, dv, _⟩ := h
  rw [dv.len, hl]
theorem ed_call {t : TA} {n : Nat} {R : List PyData → PyData → Prop} {E : XK} (h : EdA T t σ M ds) (hl : ds.length = n) (hR : R ds d) : Ed T (tCall (spD T n R) [] E t) σ M d := fun M1 H1 s o Q q =>
  h M1 H1 s o _ fun vs M2 H2 e2 dv => ⟨M2, ds, d, hl, hR, o.ex e2, by rw [List.append_nil]; exact dv, fun v M3 H3 e3 dv3 => q v M3 H3 (e2.trans e3) dv3⟩
end
end Rb

set_option Elab.async false
set_option linter.all false
set_option maxRecDepth 100000
set_option maxHeartbeats 4000000
/-! ### the program's text, its defs -/
namespace Rb
open PySem L2 PySem.Spec PyProof.Rows
def top (i : Nat) : Stmt := PySem.Challenge.pw_relaybanks_k40_whole_closures.main.body.getD i (.Pass ⟨0, 0, 0, 0⟩)
abbrev sIsIn : Stmt := top 7
abbrev sNeedSpan : Stmt := top 8
abbrev sMems : Stmt := top 9
abbrev sIsRel : Stmt := top 11
abbrev sRels : Stmt := top 12
abbrev sPlace : Stmt := top 13
abbrev sHolds : Stmt := top 14
abbrev sOnIn : Stmt := top 15
abbrev sNeedRels : Stmt := top 16
abbrev sNeedSome : Stmt := top 18
abbrev sLeast : Stmt := top 19
abbrev sGreat : Stmt := top 20
abbrev sGap : Stmt := top 21
abbrev sNear : Stmt := top 22
abbrev sPilOf : Stmt := top 24
abbrev sPillar : Stmt := top 25
abbrev sPillars : Stmt := top 26
abbrev sTaken : Stmt := top 28
abbrev sAlike : Stmt := top 30
abbrev sLawAll : Stmt := top 33
abbrev sLawOn : Stmt := top 36
abbrev sLawRels : Stmt := top 37
abbrev sLaw : Stmt := top 38

/-- what the names of the module are -/
structure Txt (mg : Str → Option Value) : Prop where
  isi : mg "isinstance" = none
  int : mg "int" = none
  bool : mg "bool" = none
  tuple : mg "tuple" = none
  list : mg "list" = none
  str : mg "str" = none
  dict : mg "dict" = none
  len : mg "len" = none
  range : mg "range" = none
  enum : mg "enumerate" = none
  all : mg "all" = none
  min : mg "min" = none
  max : mg "max" = none
  sorted : mg "sorted" = none
  most : ∃ t, mg "MOST_SPAN" = some (.int 9 t)

/-- a def of the module, as it stands -/
def Def (K : PySem.W.Frag) (mg : Str → Option Value) (x : Str) (st : Stmt) (ps : List Str) : Prop := ∃ f fd, Fun K x x st f fd ∧ mg x = some (.ref f) ∧ Binds K fd ps []
/-- the same, its code object told -/
def DefC (K : PySem.W.Frag) (mg : Str → Option Value) (x : Str) (st : Stmt) (ps : List Str) (c : Addr) : Prop := ∃ (f : Addr) (oc : Value) (od an : Option Addr) (osl : Array (Option Value)) (kV doc pm ct : Value),
  K.lookup f = some ⟨oc, od, .func (PySem.W.fnOf x x (defArgs st) (defBody st) (defScope st) .none kV doc pm an (.ref c) ct), osl⟩ ∧ PySem.W.codeIn K (.ref c) x = true ∧ PySem.W.keepIn K (.ref f) = true ∧ mg x = some (.ref f) ∧
  Binds K (PySem.W.fnOf x x (defArgs st) (defBody st) (defScope st) .none kV doc pm an (.ref c) ct) ps []
/-- a def of the module that keeps a promise -/
structure Fn (P : Program) (w : World) (K : PySem.W.Frag) (mg : Str → Option Value) (base : Heap) (x : Str) (k : Nat) (ps : List Str) (sp : Sp) : Prop where
  ex : ∃ f fd, FnOk P w K mg base CX0 k f fd ps sp ∧ mg x = some (.ref f) ∧ PySem.W.keepIn K (.ref f) = true ∧ Binds K fd ps []
section
variable {P : Program} {w : World} {K : PySem.W.Frag} {mg : Str → Option Value} {base : Heap} {T : List Addr}
theorem Fn.mono {x : Str} {j k : Nat} {ps : List Str} {sp : Sp} (F : Fn P w K mg base x j ps sp) (h : j ≤ k) : Fn P w K mg base x k ps sp :=
  let ⟨f, fd, G, r⟩ := F.ex
  ⟨f, fd, G.mono h, r⟩
theorem Def.fn {x : Str} {st : Stmt} {N ps : List Str} {k n : Nat} {R : List PyData → PyData → Prop} (D : Def K mg x st ps) (S : FnScope N ps (defScope st)) (hn : ps.length = n)
    (hbody : ∀ (f : Addr) (cdv : Value) (A : Around) (outer : List Env) (s : Shared) (H : Hp) (vs : List V) (Q : VK) (E : XK) (M : Hp) (ds : List PyData) (d : PyData), Room k (A.deeper (envOfC x (defScope st) s.heap.objs.size f cdv)) → ds.length = n → R ds d → Ok T M H → DeAll M vs ds →
      (∀ v M2 H2, Ex M H M2 H2 → De M2 v d → Q v H2) →
      ∃ t, PSs (cxOf CX0 P w K mg base N x (defScope st) f cdv A outer s H E).nox (defBody st) t ∧ t { nx := fun _ H' => Q .non H', rt := Q } (start N vs) H) : Fn P w K mg base x (k + 1) ps (spD T n R) := by
  obtain ⟨f, fd, F, hm, b⟩ := D
  refine ⟨f, fd, F.ok S (fun vs H Q E h => by rw [spD_len h, hn]) (fun cdv A outer s H vs Q E hr h => ?_), hm, F.kp, b⟩
  obtain ⟨M, ds, d, hl, hR, o, dv, q⟩ := h
  exact hbody f cdv A outer s H vs Q E M ds d hr hl hR o dv q
theorem DefC.fn {x : Str} {st : Stmt} {N ps : List Str} {k n : Nat} {c : Addr} {R : List PyData → PyData → Prop} (D : DefC K mg x st ps c) (S : FnScope N ps (defScope st)) (hn : ps.length = n)
    (hbody : ∀ (f : Addr) (A : Around) (outer : List Env) (s : Shared) (H : Hp) (vs : List V) (Q : VK) (E : XK) (M : Hp) (ds : List PyData) (d : PyData), Room k (A.deeper (envOfC x (defScope st) s.heap.objs.size f (.ref c))) → ds.length = n → R ds d → Ok T M H → DeAll M vs ds →
      (∀ v M2 H2, Ex M H M2 H2 → De M2 v d → Q v H2) →
      ∃ t, PSs (cxOf CX0 P w K mg base N x (defScope st) f (.ref c) A outer s H E).nox (defBody st) t ∧ t { nx := fun _ H' => Q .non H', rt := Q } (start N vs) H) : Fn P w K mg base x (k + 1) ps (spD T n R) := by
  obtain ⟨f, oc, od, an, osl, kV, doc, pm, ct, lk, hcd, kp, hm, b⟩ := D
  refine ⟨f, _, fn_of lk hcd S (fun vs H Q E h => by rw [spD_len h, hn]) (fun A outer s H vs Q E hr h => ?_), hm, kp, b⟩
  obtain ⟨M, ds, d, hl, hR, o, dv, q⟩ := h
  obtain ⟨t, h1, h2⟩ := hbody f A outer s H vs Q E M ds d hr hl hR o dv q
  exact ⟨t, h1.nox, h2⟩
end
section
variable {X : Cx} {x : Str} {p pos : Pos} {e : Expr} {es : List Expr} {t : TA} {sp : Sp} {ps : List Str} {k : Nat}
theorem pe_callF (F : Fn X.prog X.w X.K X.mg X.base x k ps sp) (hr : Room k X.A) (hg : Gl X x) (ha : PA X (e :: es) t) (hdb : (x == ("__debug__" : Str)) = false := by decide)
    (he : starEach (e :: es) X.env = (false, eval e X.env) :: starEach es X.env := by rfl) (hpl : (backTo pos (starEach es X.env)).any (·.1) = false := by rfl) : PE X (.Call (.Name x p) (e :: es) [] pos) (tCall sp [] E0 t) := by
  obtain ⟨f, fd, G, hm, kp, b⟩ := F.ex
  exact pe_call G hr hg hm kp b .nil pass0 ha hdb he hpl
end

/-! ### statements over data -/
section
variable {T : List Addr} {M H : Hp} {σ : L2.St} {D : Ends} {te : TE} {d : PyData} {tt : TT} {tu tw tz : TS}
theorem go_ret (h : Ed T te σ M d) (o : Ok T M H) (q : ∀ v M2 H2, Ex M H M2 H2 → De M2 v d → D.rt v H2) : tRet te D σ H := h.go o fun v M2 H2 e _ dv => q v M2 H2 e dv
theorem go_if {b : Bool} (h : EdT T tt σ M b) (o : Ok T M H) (h1 : b = true → ∀ M2 H2, Ex M H M2 H2 → Ok T M2 H2 → tu D σ H2) (h2 : b = false → ∀ M2 H2, Ex M H M2 H2 → Ok T M2 H2 → tw D σ H2) : tIfS tt tu tw D σ H := h.go o fun M2 H2 e o2 => by
  cases b with
  | true => exact iteT (h1 rfl M2 H2 e o2)
  | false => exact iteF (h2 rfl M2 H2 e o2)
theorem go_set {i : Nat} (h : Ed T te σ M d) (o : Ok T M H) (k : ∀ v M2 H2, Ex M H M2 H2 → Ok T M2 H2 → De M2 v d → tz D (σ.set i (some v)) H2) : tSeq (tAsg te (gName i)) tz D σ H := h.go o fun v M2 H2 e o2 dv => k v M2 H2 e o2 dv
theorem go_drop (h : Ed T te σ M d) (o : Ok T M H) (k : ∀ M2 H2, Ex M H M2 H2 → Ok T M2 H2 → tz D σ H2) : tSeq (tDrop te) tz D σ H := h.go o fun v M2 H2 e o2 _ => k M2 H2 e o2
end
theorem kb_ii : kitB "int" "int" = some true := by decide +kernel
theorem kb_ib : kitB "int" "bool" = some false := by decide +kernel
theorem kb_tt : kitB "tuple" "tuple" = some true := by decide +kernel
theorem kb_tl : kitB "tuple" "list" = some false := by decide +kernel
theorem kb_it : kitB "int" "tuple" = some false := by decide +kernel
theorem kb_il : kitB "int" "list" = some false := by decide +kernel
theorem kb_is : kitB "int" "str" = some false := by decide +kernel
theorem kb_st : kitB "str" "tuple" = some false := by decide +kernel
theorem kb_sl : kitB "str" "list" = some false := by decide +kernel
theorem kb_ss : kitB "str" "str" = some true := by decide +kernel
/-! ### is_in, need_span -/
section
variable {P : Program} {w : World} {K : PySem.W.Frag} {mg : Str → Option Value} {base : Heap} {T : List Addr}
def rIsIn (ds : List PyData) (d : PyData) : Prop := ∃ v lo hi : Int, ds = [.int v, .int lo, .int hi] ∧ d = .bool (decide (lo ≤ v) && decide (v ≤ hi))
theorem scIsIn : FnScope ["value", "least", "most"] ["value", "least", "most"] (defScope sIsIn) := ⟨rfl, rfl, rfl, by decide +kernel, rfl, by decide +kernel, by decide +kernel⟩
theorem ok_isIn (D : Def K mg "is_in" sIsIn ["value", "least", "most"]) (X : Txt mg) : Fn P w K mg base "is_in" 1 ["value", "least", "most"] (spD T 3 rIsIn) := by
  refine D.fn scIsIn rfl fun f cdv A outer s H vs Q E M ds d hr hl hR o dv q => ?_
  obtain ⟨v, lo, hi, rfl, rfl⟩ := hR
  obtain ⟨a, b, c, rfl, da, db, dc⟩ := dv.three
  refine ⟨_, pss_one (ps_ret (pe_and (pe_callB call_isi (by rfl) X.isi (by decide +kernel) (pa_cons (pv 0) (pa_cons (pe_bltn (v := .ty "int") (by rfl) X.int (by decide +kernel) rfl) pa_nil)))
    (pe_and (pe_not (pe_callB call_isi (by rfl) X.isi (by decide +kernel) (pa_cons (pv 0) (pa_cons (pe_bltn (v := .ty "bool") (by rfl) X.bool (by decide +kernel) rfl) pa_nil))))
      (pe_one (pe_chain op_le op_le (pv 1) (pv 0) (pv 2)))))), ?_⟩
  exact go_ret (ed_is (ed_andV (ed_isi (ed_var rfl da) kb_ii) fun _ => ed_andV (ed_notV (ed_isi (ed_var rfl da) kb_ib)) fun _ => ed_chain (ed_var rfl db) (ed_var rfl da) (ed_var rfl dc)) (by simp)) o q
def rNeedSpan (ds : List PyData) (d : PyData) : Prop := ∃ n : Nat, 1 ≤ n ∧ n ≤ 9 ∧ ds = [.int n] ∧ d = .none
theorem scNeedSpan : FnScope ["span"] ["span"] (defScope sNeedSpan) := ⟨rfl, rfl, rfl, by decide +kernel, rfl, by decide +kernel, by decide +kernel⟩
theorem ok_needSpan (D : Def K mg "need_span" sNeedSpan ["span"]) (X : Txt mg) (F1 : Fn P w K mg base "is_in" 1 ["value", "least", "most"] (spD T 3 rIsIn)) : Fn P w K mg base "need_span" 2 ["span"] (spD T 1 rNeedSpan) := by
  refine D.fn scNeedSpan rfl fun f cdv A outer s H vs Q E M ds d hr hl hR o dv q => ?_
  obtain ⟨n, h1, h2, rfl, rfl⟩ := hR
  obtain ⟨a, rfl, da⟩ := dv.one
  obtain ⟨t, hmost⟩ := X.most
  refine ⟨_, pss_one (ps_if (pt_not (pt_val (pe_callF F1 hr (by rfl) (pa_cons (pv 0) (pa_cons pe_int (pa_cons (pe_glob (v := .int 9) rfl hmost ⟨_, rfl⟩) pa_nil)))))) (pss_one ps_never) pss_nil), ?_⟩
  refine go_if (b := false) (et_is (et_not (et_B (b := true) (ed_call (d := .bool true) (ea_cons (ed_var rfl da) (ea_cons ed_int (ea_cons ed_int ea_nil))) rfl ⟨n, 1, 9, rfl, ?_⟩))) rfl) o (fun z => nomatch z) fun _ M2 H2 e o2 => ?_
  · simp; omega
  · exact q .non M2 H2 e .non
end
end Rb

set_option Elab.async false
set_option linter.all false
set_option maxRecDepth 100000
set_option maxHeartbeats 4000000
/-! ### the mirror: what the program computes, in plain functions -/
namespace Rb
open PySem L2
def S (l : List Nat) : Str := ⟨l.toArray⟩
theorem S_list (l : List Nat) : (S l).cps.toList = l := rfl
theorem S_len (l : List Nat) : (S l).length = l.length := rfl
theorem S_cat (l m : List Nat) : S l ++ S m = S (l ++ m) := by
  show (⟨l.toArray ++ m.toArray⟩ : Str) = ⟨(l ++ m).toArray⟩
  simp
theorem S_inj {l m : List Nat} : S l = S m ↔ l = m := by
  constructor
  · intro h
    have h2 := congrArg (fun z : Str => z.cps.toList) h
    exact h2
  · intro h
    rw [h]
theorem S_one (c : Nat) : (⟨#[c]⟩ : Str) = S [c] := rfl
abbrev Rel := Nat × Nat
def relD (r : Rel) : PyData := .tuple [.int ((r.1 : Nat) : Int), .int ((r.2 : Nat) : Int)]
def strD (l : List Nat) : PyData := .str (S l)
def mems : Nat → List (List Nat)
  | 0 => [[]]
  | n + 1 => (mems n).flatMap fun m => [m ++ [48], m ++ [49]]
def rels (n : Nat) : List Rel := (List.range n).flatMap fun i => (List.range (i + 1)).map fun l => (i + 1, l)
def ats (l : List Nat) (c : Nat) : List Nat := (List.range l.length).filter fun i => l.getD i 0 == c
def placeM (l : List Nat) (c k : Nat) : Nat := if k ≤ (ats l c).length then (ats l c).getD (k - 1) 0 else l.length
def holdsM (l : List Nat) (r : Rel) : Bool := decide (placeM l 49 (r.2 + 1) < placeM l 48 (l.length - r.1 + 1))
def onM (l : List Nat) : List Rel := (rels l.length).filter (holdsM l)
theorem mems_len : ∀ (n : Nat) (m : List Nat), m ∈ mems n → m.length = n
  | 0, m, h => by
    have e : m = [] := by simpa [mems] using h
    rw [e]; rfl
  | n + 1, m, h => by
    obtain ⟨a, ha, hm⟩ := List.mem_flatMap.mp h
    have la := mems_len n a ha
    rcases List.mem_cons.mp hm with e | hm
    · rw [e, List.length_append, la]; rfl
    · rcases List.mem_cons.mp hm with e | hm
      · rw [e, List.length_append, la]; rfl
      · cases hm
theorem mems_count (n : Nat) : (mems n).length = 2 ^ n := by
  induction n with
  | zero => rfl
  | succ n ih =>
    show ((mems n).flatMap fun m => [m ++ [48], m ++ [49]]).length = _
    rw [List.length_flatMap]
    simp only [List.length_cons, List.length_nil]
    rw [List.map_const', List.sum_replicate_nat, ih]
    omega
theorem mem_rels {n : Nat} {r : Rel} : r ∈ rels n ↔ 1 ≤ r.1 ∧ r.1 ≤ n ∧ r.2 < r.1 := by
  obtain ⟨h, l⟩ := r
  unfold rels
  constructor
  · intro hm
    obtain ⟨i, hi, hm⟩ := List.mem_flatMap.mp hm
    obtain ⟨j, hj, e⟩ := List.mem_map.mp hm
    cases e
    have h1 := List.mem_range.mp hi
    have h2 := List.mem_range.mp hj
    exact ⟨by omega, by omega, h2⟩
  · rintro ⟨h1, h2, h3⟩
    simp only at h1 h2 h3
    refine List.mem_flatMap.mpr ⟨h - 1, List.mem_range.mpr (by omega), List.mem_map.mpr ⟨l, List.mem_range.mpr (by omega), ?_⟩⟩
    rw [show h - 1 + 1 = h by omega]
theorem relD_inj {r s : Rel} (h : relD r = relD s) : r = s := by
  obtain ⟨a, b⟩ := r
  obtain ⟨c, d⟩ := s
  unfold relD at h
  injection h with h
  injection h with h1 h
  injection h with h2 h
  injection h1 with h1
  injection h2 with h2
  have e1 : a = c := by exact Int.ofNat.inj h1
  have e2 : b = d := by exact Int.ofNat.inj h2
  rw [e1, e2]
theorem relD_eqv (r s : Rel) : PyData.eqv (relD r) (relD s) = decide (r = s) := by
  obtain ⟨a, b⟩ := r
  obtain ⟨c, d⟩ := s
  have e : PyData.eqv (relD (a, b)) (relD (c, d)) = (((a : Int) == (c : Int)) && (((b : Int) == (d : Int)) && true)) := by simp only [relD, PyData.eqv, PyData.eqvAll]
  rw [e, Bool.and_true, Bool.eq_iff_iff]
  simp only [Bool.and_eq_true, beq_iff_eq, decide_eq_true_eq, Prod.mk.injEq]
  omega
theorem memD_rel (rs : List Rel) (r : Rel) : memD (rs.map relD) (relD r) = decide (r ∈ rs) := by
  unfold memD
  rw [List.any_map, Bool.eq_iff_iff]
  simp only [List.any_eq_true, Function.comp, relD_eqv, decide_eq_true_eq]
  constructor
  · rintro ⟨x, h1, h2⟩
    rw [← h2]; exact h1
  · intro h
    exact ⟨r, h, rfl⟩
theorem relD_lay (z : Rel) : (relD z).canLay0 = true := by simp [relD, PyData.canLay0, PyData.canLayAll0]
theorem relD_depth (z : Rel) : (relD z).depth = 1 := by simp [relD, PyData.depth, PyData.depthAll]
theorem relD_shaped (z : Rel) : SeqAt.shaped (relD z) = true := by
  show ((relD z).canLay0 && decide ((relD z).depth ≤ 64)) = true
  rw [relD_lay, relD_depth]
  rfl
theorem relDs_lay : ∀ zs : List Rel, PyData.canLayAll0 (zs.map relD) = true
  | [] => by simp [PyData.canLayAll0]
  | z :: zs => by simp [PyData.canLayAll0, relD_lay z, relDs_lay zs]
theorem relDs_depth : ∀ zs : List Rel, PyData.depthAll (zs.map relD) ≤ 1
  | [] => by simp [PyData.depthAll]
  | z :: zs => by
    have h1 := relDs_depth zs
    have h2 := relD_depth z
    simp only [List.map_cons, PyData.depthAll]
    omega
theorem relDs_shapedL (zs : List Rel) : SeqAt.shaped (.list (zs.map relD)) = true := by
  have h1 := relDs_depth zs
  have h2 : PyData.depth (.list (zs.map relD)) ≤ 64 := by
    simp only [PyData.depth]
    omega
  show (PyData.canLay0 (.list (zs.map relD)) && decide (PyData.depth (.list (zs.map relD)) ≤ 64)) = true
  rw [Bool.and_eq_true]
  exact ⟨by simp only [PyData.canLay0]; exact relDs_lay zs, decide_eq_true h2⟩
theorem relDs_shapedT (zs : List Rel) : SeqAt.shaped (.tuple (zs.map relD)) = true := by
  have h1 := relDs_depth zs
  have h2 : PyData.depth (.tuple (zs.map relD)) ≤ 64 := by
    simp only [PyData.depth]
    omega
  show (PyData.canLay0 (.tuple (zs.map relD)) && decide (PyData.depth (.tuple (zs.map relD)) ≤ 64)) = true
  rw [Bool.and_eq_true]
  exact ⟨by simp only [PyData.canLay0]; exact relDs_lay zs, decide_eq_true h2⟩
end Rb

set_option Elab.async false
set_option linter.all false
set_option maxRecDepth 100000
set_option maxHeartbeats 4000000
/-! ### all_memories, is_relay, all_relays, place, holds, on_in -/
namespace Rb
open PySem L2 PySem.Spec PyProof.Rows
section
variable {T : List Addr} {σ : L2.St} {M H : Hp} {D : Ends} {ds : List PyData} {wi : TI} {g : TG} {tb tz : TS}
theorem go_asg {te : TE} {d : PyData} {i : Nat} (h : Ed T te σ M d) (o : Ok T M H) (k : ∀ v M2 H2, Ex M H M2 H2 → Ok T M2 H2 → De M2 v d → D.nx (σ.set i (some v)) H2) : tAsg te (gName i) D σ H := h.go o fun v M2 H2 e o2 dv => k v M2 H2 e o2 dv
/-- a for over data, then the rest -/
theorem for_s (h : EdI T wi σ M ds) (o : Ok T M H) (Pv : Nat → Hp → L2.St → Hp → Prop)
    (h0 : ∀ M2 H2, Ex M H M2 H2 → Pv 0 M2 σ H2)
    (hs : ∀ i d x M3 H3 M4 H4 σ3 (N : L2.St → Hp → Prop), ds[i]? = some d → Same M M3 → Ok T M3 H3 → Pv i M3 σ3 H3 → Ex M3 H3 M4 H4 → Ok T M4 H4 → De M4 x d →
      (∀ M5 σ5 H5, Same M4 M5 → Ok T M5 H5 → Pv (i + 1) M5 σ5 H5 → N σ5 H5) → g x σ3 H4 fun σ2 H2 => tb { D with nx := N, ct := N, bk := tz D } σ2 H2)
    (hd : ∀ M5 σ5 H5, Same M M5 → Ok T M5 H5 → Pv ds.length M5 σ5 H5 → tz D σ5 H5) : tSeq (tFor wi g tb) tz D σ H :=
  for_d (D := { D with nx := tz D }) h o Pv h0 hs hd
end
def catD : PyData → PyData → PyData
  | .str a, .str b => .str (a ++ b)
  | _, _ => .none
theorem z01 : ("01" : Str).cps.toList = [48, 49] := by decide +kernel
theorem zE : ("" : Str) = S [] := by decide +kernel
theorem zero1 : ("0" : Str) = S [48] := by decide +kernel
theorem one1 : ("1" : Str) = S [49] := by decide +kernel
theorem mems_step (n : Nat) : ((mems n).map strD).flatMap (fun d => (sgD [48, 49]).map (catD d)) = (mems (n + 1)).map strD := by
  show _ = ((mems n).flatMap fun m => [m ++ [48], m ++ [49]]).map strD
  rw [List.map_flatMap, List.flatMap_map]
  congr 1
  funext a
  show [PyData.str (S a ++ S [48]), PyData.str (S a ++ S [49])] = [strD (a ++ [48]), strD (a ++ [49])]
  rw [S_cat, S_cat]
  rfl
theorem ei_is {T : List Addr} {σ : L2.St} {M : Hp} {wi : TI} {ds es : List PyData} (h : EdI T wi σ M ds) (e : ds = es) : EdI T wi σ M es := e ▸ h
section
variable {P : Program} {w : World} {K : PySem.W.Frag} {mg : Str → Option Value} {base : Heap} {T : List Addr}
def rMems (ds : List PyData) (d : PyData) : Prop := ∃ n : Nat, n ≤ 9 ∧ ds = [.int n] ∧ d = .list ((mems n).map strD)
theorem scMems : FnScope ["span", "found", "turn", "memory", "sign"] ["span"] (defScope sMems) := ⟨rfl, rfl, rfl, by decide +kernel, rfl, by decide +kernel, by decide +kernel⟩
theorem ok_mems (D : Def K mg "all_memories" sMems ["span"]) (X : Txt mg) : Fn P w K mg base "all_memories" 1 ["span"] (spD T 1 rMems) := by
  refine D.fn scMems rfl fun f cdv A outer s H vs Q E M ds d hr hl hR o dv q => ?_
  obtain ⟨n, h1, rfl, rfl⟩ := hR
  obtain ⟨a, rfl, da⟩ := dv.one
  refine ⟨_, pss_cons (ps_set (i := 1) scMems.nd rfl (.inl rfl) (pe_lst (pa_cons pe_str pa_nil)))
    (pss_cons (ps_for PassesOwn.never rfl (pi_range1 (by rfl) X.range (pa_cons (pv 0) pa_nil)) (pg_name (i := 2) scMems.nd rfl (.inl rfl))
      (pss_one (ps_setLc2 (i := 1) (own := [("memory", 3), ("sign", 4)]) (vs1 := [4]) (g := gName 3) (g1 := gName 4) rfl scMems.nd rfl rfl (sw_true rfl rfl rfl (by decide +kernel)) (pi_list (pv 1))
        (blkOk_by (N := ["span", "found", "turn", "memory", "sign"]) (sc := defScope sMems) (by decide +kernel)) (by decide)
        (fun _ _ _ _ _ => pg_name (i := 3) scMems.nd rfl (.inl rfl)) (fun _ _ _ _ _ => pts_nil) (fun _ _ _ _ _ => pi_str pe_str) (fun _ _ _ _ _ => pg_name (i := 4) scMems.nd rfl (.inl rfl)) (fun _ _ _ _ _ => pts_nil)
        (fun _ _ _ _ _ => pe_op op_add_str (pv 3) (pv 4)))))
    (pss_one (ps_ret (pv 1)))), ?_⟩
  refine go_set (ed_lst (ea_cons ed_str ea_nil) (by decide)) o fun v M2 H2 e2 o2 dv2 => ?_
  have da2 := da.mono e2.m
  refine for_s (ei_rng1 (n := n) (ea_cons (ed_var rfl da2) ea_nil) (by omega)) o2 (fun i M' σ' H' => Ex M H M' H' ∧ ∃ (v : V) (tv : Option V), σ' = [some a, some v, tv, none, none] ∧ De M' v (.list ((mems i).map strD))) (fun M3 H3 e3 => ⟨e2.trans e3, v, none, rfl, ?_⟩) ?_ ?_
  · rw [zE] at dv2
    exact dv2.mono e3.m
  · rintro i d x M3 H3 M4 H4 σ3 N hd s3 o3 ⟨x3, v, tv, rfl, dv⟩ e4 o4 dx hN
    have hi : i < n := by
      have := (List.getElem?_eq_some_iff.mp hd).1
      rw [rgD_len] at this
      exact this
    have dv4 := dv.mono e4.m
    refine go_asg (ed_lc2 (es := fun _ => sgD [48, 49]) (f := catD) (ei_list (ed_var rfl dv4)) ?_ fun d hd' y M5 s5 dy => ⟨_, fun H1 Q _ q => q, rfl, ei_is (ei_str ed_str) (by rw [z01]), fun e he z M6 s6 dz => ⟨_, fun H1 Q _ q => q, rfl, ?_⟩⟩) o4 fun v5 M5 H5 e5 o5 dv5 => ?_
    · rw [mems_step, List.length_map, mems_count]
      have : 2 ^ (i + 1) ≤ 2 ^ 9 := Nat.pow_le_pow_right (by decide) (by omega)
      omega
    · obtain ⟨m, hm, rfl⟩ := List.mem_map.mp hd'
      obtain ⟨c, hc, rfl⟩ := List.mem_map.mp he
      refine ed_op (ed_var rfl (dy.mono s6)) (ed_var rfl dz) (rd_addS ?_)
      rw [S_len, mems_len i m hm]
      exact Nat.le_trans (show i + 1 ≤ 10 by omega) (by decide)
    · rw [mems_step] at dv5
      exact hN M5 _ H5 e5.m o5 ⟨(x3.trans e4).trans e5, v5, _, rfl, dv5⟩
  · rintro M5 σ5 H5 s5 o5 ⟨x5, v, tv, rfl, dv⟩
    rw [rgD_len] at dv
    exact go_ret (ed_var rfl dv) o5 fun v' M6 H6 e6 dv6 => q v' M6 H6 (x5.trans e6) dv6
end
end Rb

set_option Elab.async false
set_option linter.all false
set_option maxRecDepth 100000
set_option maxHeartbeats 4000000
namespace Rb
open PySem L2 PySem.Spec PyProof.Rows
section
variable {P : Program} {w : World} {K : PySem.W.Frag} {mg : Str → Option Value} {base : Heap} {T : List Addr}
/-! ### is_relay -/
def rIsRel (ds : List PyData) (d : PyData) : Prop := ∃ (n : Nat) (r : Rel), r ∈ rels n ∧ ds = [.int n, relD r] ∧ d = .bool true
theorem scIsRel : FnScope ["span", "value"] ["span", "value"] (defScope sIsRel) := ⟨rfl, rfl, rfl, by decide +kernel, rfl, by decide +kernel, by decide +kernel⟩
theorem ok_isRel (D : Def K mg "is_relay" sIsRel ["span", "value"]) (X : Txt mg) (F1 : Fn P w K mg base "is_in" 1 ["value", "least", "most"] (spD T 3 rIsIn)) : Fn P w K mg base "is_relay" 2 ["span", "value"] (spD T 2 rIsRel) := by
  refine D.fn scIsRel rfl fun f cdv A outer s H vs Q E M ds d hr hl hR o dv q => ?_
  obtain ⟨n, ⟨h, l⟩, hm, rfl, rfl⟩ := hR
  obtain ⟨h1, h2, h3⟩ := mem_rels.mp hm
  simp only at h1 h2 h3
  obtain ⟨a, b, rfl, da, db⟩ := dv.two
  refine ⟨_, pss_cons (ps_if (PW.pt (pw_or (pt_not (pt_val (pe_callB call_isi (by rfl) X.isi (by decide +kernel) (pa_cons (pv 1) (pa_cons (pe_bltn (v := .ty "tuple") (by rfl) X.tuple (by decide +kernel) rfl) pa_nil)))))
      (pw_or (pt_cmpR op_ne (pe_callB call_len_seq (by rfl) X.len PySem.boot_len (pa_cons (pv 1) pa_nil)) pe_int (nomark _))
        (pw_or1 (pt_not (pt_val (pe_callF F1 hr (by rfl) (pa_cons (pe_ix ix_tup (pv 1) pe_int (fun _ _ => rfl)) (pa_cons pe_int (pa_cons (pv 0) pa_nil))))))))))
      (pss_one (ps_ret pe_bl)) pss_nil)
    (pss_one (ps_ret (pe_callF F1 hr (by rfl) (pa_cons (pe_ix ix_tup (pv 1) pe_int (fun _ _ => rfl)) (pa_cons pe_int (pa_cons (pe_op op_sub (pe_ix ix_tup (pv 1) pe_int (fun _ _ => rfl)) pe_int) pa_nil)))))), ?_⟩
  refine go_if (b := false) (et_is (et_or (et_not (et_B (ed_isi (ed_var rfl db) kb_tt))) fun _ => et_or (et_test (ed_op (ed_cb (ea_cons (ed_var rfl db) ea_nil) rdc_lenT) ed_int rd_neI)) fun _ => et_not (et_B (b := true) (ed_call (d := .bool true) (ea_cons (ed_op (ed_var rfl db) ed_int (rd_ixT (j := 0) (d := .int (h : Int)) rfl rfl)) (ea_cons ed_int (ea_cons (ed_var rfl da) ea_nil))) rfl ⟨h, 1, n, rfl, ?_⟩))) ?_) o (fun z => nomatch z) fun _ M2 H2 e o2 => ?_
  · simp; omega
  · simp
  · refine go_ret (ed_call (d := .bool true) (ea_cons (ed_op (ed_var rfl (db.mono e.m)) ed_int (rd_ixT (j := 1) (d := .int (l : Int)) rfl rfl)) (ea_cons ed_int (ea_cons (ed_op (ed_op (ed_var rfl (db.mono e.m)) ed_int (rd_ixT (j := 0) (d := .int (h : Int)) rfl rfl)) ed_int rd_int) ea_nil))) rfl ⟨l, 0, _, rfl, ?_⟩) o2 fun v M3 H3 e3 dv3 => q v M3 H3 (e.trans e3) dv3
    simp; omega
/-! ### all_relays -/
def esR : PyData → List PyData
  | .int h => rgD 0 h.toNat
  | _ => []
theorem rels_data (n : Nat) : (rgD 1 n).flatMap (fun d => (esR d).map fun e => .tuple [d, e]) = (rels n).map relD := by
  unfold rels
  rw [List.map_flatMap]
  unfold rgD
  rw [List.flatMap_map]
  congr 1
  funext i
  show (rgD 0 ((1 + i : Nat) : Int).toNat).map (fun e => PyData.tuple [.int ((1 + i : Nat) : Int), e]) = _
  have e : ((1 + i : Nat) : Int).toNat = i + 1 := by omega
  rw [e]
  unfold rgD
  rw [List.map_map, List.map_map]
  apply List.map_congr_left
  intro l _
  show PyData.tuple [.int ((1 + i : Nat) : Int), .int ((0 + l : Nat) : Int)] = relD (i + 1, l)
  unfold relD
  rw [show 1 + i = i + 1 by omega, show 0 + l = l by omega]
theorem rels_len (n : Nat) : (rels n).length ≤ n * n := by
  unfold rels
  rw [List.length_flatMap]
  have h : ∀ m, m ≤ n → ((List.range m).map fun i => ((List.range (i + 1)).map fun l => ((i + 1, l) : Rel)).length).sum ≤ m * n := by
    intro m
    induction m with
    | zero => intro _; simp
    | succ m ih =>
      intro hm
      rw [List.range_succ, List.map_append, List.sum_append]
      have := ih (by omega)
      simp only [List.map_cons, List.map_nil, List.sum_cons, List.sum_nil, List.length_map, List.length_range] at this ⊢
      rw [Nat.succ_mul]
      omega
  exact h n (Nat.le_refl n)
def rRels (ds : List PyData) (d : PyData) : Prop := ∃ n : Nat, n ≤ 100 ∧ ds = [.int n] ∧ d = .list ((rels n).map relD)
theorem scRels : FnScope ["span", "high", "low"] ["span"] (defScope sRels) := ⟨rfl, rfl, rfl, by decide +kernel, rfl, by decide +kernel, by decide +kernel⟩
theorem ok_rels (D : Def K mg "all_relays" sRels ["span"]) (X : Txt mg) : Fn P w K mg base "all_relays" 1 ["span"] (spD T 1 rRels) := by
  refine D.fn scRels rfl fun f cdv A outer s H vs Q E M ds d hr hl hR o dv q => ?_
  obtain ⟨n, hn, rfl, rfl⟩ := hR
  obtain ⟨a, rfl, da⟩ := dv.one
  refine ⟨_, pss_one (ps_ret (pe_lc2 (own := [("high", 1), ("low", 2)]) (vs1 := [2]) (g := gName 1) (g1 := gName 2) rfl scRels.nd (pi_range2 (by rfl) X.range (pa_cons pe_int (pa_cons (pe_op op_add (pv 0) pe_int) pa_nil)))
    (blkOk_by (N := ["span", "high", "low"]) (sc := defScope sRels) (by decide +kernel)) (by decide)
    (fun _ _ _ _ _ => pg_name (i := 1) scRels.nd rfl (.inl rfl)) (fun _ _ _ _ _ => pts_nil) (fun _ _ _ _ _ => pi_range1 (by rfl) X.range (pa_cons (pv 1) pa_nil)) (fun _ _ _ _ _ => pg_name (i := 2) scRels.nd rfl (.inl rfl)) (fun _ _ _ _ _ => pts_nil)
    (fun _ _ _ _ _ => pe_tup (pa_cons (pv 1) (pa_cons (pv 2) pa_nil))))), ?_⟩
  refine go_ret (ed_is (ed_lc2 (es := esR) (f := fun d e => .tuple [d, e]) (ei_is (ei_rng2 (lo := 1) (hi := n + 1) (ea_cons ed_int (ea_cons (ed_is (ed_op (ed_var rfl da) ed_int rd_int) (by simp)) ea_nil)) (by omega) (by omega)) rfl) ?_
    fun d hd y M5 s5 dy => ?_) (congrArg PyData.list (rels_data n))) o q
  · show ((rgD 1 n).flatMap _).length < _
    rw [rels_data, List.length_map]
    have := rels_len n
    have h2 : n * n ≤ 100 * 100 := Nat.mul_le_mul hn hn
    omega
  · obtain ⟨i, hi, rfl⟩ := mem_rgD hd
    refine ⟨_, fun H1 Q _ q => q, rfl, ei_is (ei_rng1 (n := 1 + i) (ea_cons (ed_var rfl dy) ea_nil) (by omega)) ?_, fun e he z M6 s6 dz => ⟨_, fun H1 Q _ q => q, rfl, ed_tup (ea_cons (ed_var rfl (dy.mono s6)) (ea_cons (ed_var rfl dz) ea_nil)) (by show 2 ≤ 100000; decide)⟩⟩
    show rgD 0 (1 + i) = rgD 0 ((1 + i : Nat) : Int).toNat
    rw [show ((1 + i : Nat) : Int).toNat = 1 + i by omega]
/-! ### place -/
def isSign (c : Nat) : PyData → Bool
  | .tuple [_, .str z] => decide (z = S [c])
  | _ => false
def fstD : PyData → PyData
  | .tuple (d :: _) => d
  | d => d
def natD (i : Nat) : PyData := .int ((i : Nat) : Int)
theorem ats_data (l : List Nat) (c : Nat) : ((enD (sgD l)).filter (isSign c)).map fstD = (ats l c).map natD := by
  unfold enD ats
  have el : (sgD l).length = l.length := by unfold sgD; rw [List.length_map]
  rw [el, List.filter_map, List.map_map]
  have h1 : (List.range l.length).filter (isSign c ∘ fun i => PyData.tuple [.int (i : Nat), (sgD l).getD i .none]) = (List.range l.length).filter fun i => l.getD i 0 == c := by
    apply List.filter_congr
    intro i hi
    have hlt := List.mem_range.mp hi
    have e : (sgD l).getD i .none = .str ⟨#[l.getD i 0]⟩ := by
      rw [List.getD_eq_getElem?_getD, List.getD_eq_getElem?_getD]
      unfold sgD
      rw [List.getElem?_map, List.getElem?_eq_getElem hlt]
      rfl
    show isSign c (PyData.tuple [.int (i : Nat), (sgD l).getD i .none]) = _
    rw [e]
    show decide (S [l.getD i 0] = S [c]) = _
    rw [Bool.eq_iff_iff]
    simp [S_inj]
  rw [h1]
  rfl
def rPlace (ds : List PyData) (d : PyData) : Prop := ∃ (l : List Nat) (c k : Nat), l.length ≤ 100 ∧ 1 ≤ k ∧ ds = [strD l, strD [c], .int (k : Int)] ∧ d = natD (placeM l c k)
theorem scPlace : FnScope ["memory", "sign", "number", "found", "at", "one"] ["memory", "sign", "number"] (defScope sPlace) := ⟨rfl, rfl, rfl, by decide +kernel, rfl, by decide +kernel, by decide +kernel⟩
theorem ats_len (l : List Nat) (c : Nat) : (ats l c).length ≤ l.length := by
  have h := List.length_filter_le (fun i => l.getD i 0 == c) (List.range l.length)
  rw [List.length_range] at h
  exact h
theorem ok_place (D : Def K mg "place" sPlace ["memory", "sign", "number"]) (X : Txt mg) : Fn P w K mg base "place" 1 ["memory", "sign", "number"] (spD T 3 rPlace) := by
  refine D.fn scPlace rfl fun f cdv A outer s H vs Q E M ds d hr hl hR o dv q => ?_
  obtain ⟨l, c0, k, hz, hk, rfl, rfl⟩ := hR
  obtain ⟨a, b, n, rfl, da, db, dn⟩ := dv.three
  refine ⟨_, pss_cons (ps_setLc (i := 3) (own := [("at", 4), ("one", 5)]) (g := gTup _ 2 (gCons (gName 4) (gCons (gName 5) gNil))) rfl scPlace.nd rfl rfl (sw_true rfl rfl rfl (by decide +kernel)) (pi_enumS (by rfl) X.enum (pa_cons (pv 0) pa_nil))
      (blkOk_by (N := ["memory", "sign", "number", "found", "at", "one"]) (sc := defScope sPlace) (by decide +kernel))
      (fun _ _ _ _ _ => pg_tup rfl (pgs_cons (pg_name (i := 4) scPlace.nd rfl (.inl rfl)) (pgs_cons (pg_name (i := 5) scPlace.nd rfl (.inl rfl)) pgs_nil)))
      (fun _ _ _ _ _ => pts_one (pt_cmpR op_eq (pv 5) (pv 1) (nomark _))) (fun _ _ _ _ _ => pv 4))
    (pss_one (ps_ret (pe_ifExp (pt_cmpR op_le (pv 2) (pe_callB call_len_seq (by rfl) X.len PySem.boot_len (pa_cons (pv 3) pa_nil)) (nomark _))
      (pe_ix ix_list (pv 3) (pe_op op_sub (pv 2) pe_int) (fun _ _ => rfl)) (pe_callB call_len_str (by rfl) X.len PySem.boot_len (pa_cons (pv 0) pa_nil))))), ?_⟩
  refine go_set (ed_is (ed_lc (p := isSign c0) (f := fstD) (ei_enumS (ea_cons (ed_var rfl da) ea_nil)) ?_ fun d hd x M5 s5 dx => ?_) (congrArg PyData.list (ats_data l c0))) o fun v M2 H2 e2 o2 dv2 => ?_
  · rw [enD_len]
    unfold sgD
    rw [List.length_map, S_list]
    omega
  · obtain ⟨i, e, he, rfl⟩ := mem_enD hd
    obtain ⟨cc, hcc, rfl⟩ := List.mem_map.mp (List.mem_of_getElem? he)
    obtain ⟨p, xs, rfl, hp, hxs⟩ := dx.tup_of
    obtain ⟨u, v, rfl, du, dv'⟩ := hxs.two
    refine ⟨_, fun H1 Q s1 qq => ⟨p, [u, v], rfl, SqT.of (s1 _ _ hp), rfl, u, [v], rfl, v, [], rfl, rfl, qq⟩, rfl, et_test (ed_op (ed_var rfl dv') (ed_var rfl (db.mono s5)) rd_eqS), fun _ => ed_var rfl du⟩
  · refine go_ret (ed_if (et_test (ed_op (ed_var rfl (dn.mono e2.m)) (ed_cb (ea_cons (ed_var rfl dv2) ea_nil) rdc_lenL) rd_cmp)) (fun hb => ?_) (fun hb => ?_)) o2 fun v3 M3 H3 e3 dv3 => q v3 M3 H3 (e2.trans e3) dv3
    · have hb' : k ≤ (ats l c0).length := by
        have := of_decide_eq_true hb
        rw [List.length_map] at this
        omega
      refine ed_op (ed_var rfl dv2) (ed_op (ed_var rfl (dn.mono e2.m)) ed_int rd_int) (rd_ixL (j := k - 1) (by omega) ?_)
      unfold placeM
      rw [if_pos hb', List.getElem?_map, getD_get (z := 0) (l := ats l c0) (i := k - 1) (by omega)]
      rfl
    · have hb' : ¬ k ≤ (ats l c0).length := by
        have := of_decide_eq_false hb
        rw [List.length_map] at this
        omega
      refine ed_is (ed_cb (ea_cons (ed_var rfl (da.mono e2.m)) ea_nil) (rdc_lenS (by rw [S_len]; exact Nat.le_trans hz (by decide)))) ?_
      unfold placeM
      rw [if_neg hb']
      rfl
/-! ### holds -/
def rHolds (ds : List PyData) (d : PyData) : Prop := ∃ (l : List Nat) (r : Rel), l.length ≤ 100 ∧ r.1 ≤ l.length ∧ ds = [strD l, relD r] ∧ d = .bool (holdsM l r)
theorem scHolds : FnScope ["memory", "relay", "high", "low"] ["memory", "relay"] (defScope sHolds) := ⟨rfl, rfl, rfl, by decide +kernel, rfl, by decide +kernel, by decide +kernel⟩
theorem ok_holds (D : Def K mg "holds" sHolds ["memory", "relay"]) (X : Txt mg) (F1 : Fn P w K mg base "place" 1 ["memory", "sign", "number"] (spD T 3 rPlace)) : Fn P w K mg base "holds" 2 ["memory", "relay"] (spD T 2 rHolds) := by
  refine D.fn scHolds rfl fun f cdv A outer s H vs Q E M ds d hr hl hR o dv q => ?_
  obtain ⟨l, ⟨h, lo⟩, hz, hh, rfl, rfl⟩ := hR
  simp only at hh
  obtain ⟨a, b, rfl, da, db⟩ := dv.two
  refine ⟨_, pss_cons (ps_asg (pv 1) (pg_tup rfl (pgs_cons (pg_name (i := 2) scHolds.nd rfl (.inl rfl)) (pgs_cons (pg_name (i := 3) scHolds.nd rfl (.inl rfl)) pgs_nil))))
    (pss_one (ps_ret (pe_cmpR op_lt (pe_callF F1 hr (by rfl) (pa_cons (pv 0) (pa_cons pe_str (pa_cons (pe_op op_add (pv 3) pe_int) pa_nil))))
      (pe_callF F1 hr (by rfl) (pa_cons (pv 0) (pa_cons pe_str (pa_cons (pe_op op_add (pe_op op_sub (pe_callB call_len_str (by rfl) X.len PySem.boot_len (pa_cons (pv 0) pa_nil)) (pv 2)) pe_int) pa_nil)))) (nomark _)))), ?_⟩
  obtain ⟨p, xs, rfl, hp, hxs⟩ := db.tup_of
  obtain ⟨u, v, rfl, du, dv'⟩ := hxs.two
  refine ⟨_, rfl, p, [u, v], rfl, SqT.of (o.s _ _ hp), rfl, u, [v], rfl, v, [], rfl, rfl, ?_⟩
  refine go_ret (ed_is (ed_op (ed_call (d := natD (placeM l 49 (lo + 1))) (ea_cons (ed_var rfl da) (ea_cons ed_str (ea_cons (ed_op (ed_var rfl dv') ed_int rd_int) ea_nil))) rfl ⟨l, 49, lo + 1, hz, by omega, ?_, rfl⟩)
    (ed_call (d := natD (placeM l 48 (l.length - h + 1))) (ea_cons (ed_var rfl da) (ea_cons ed_str (ea_cons (ed_op (ed_op (ed_cb (ea_cons (ed_var rfl da) ea_nil) (rdc_lenS (by rw [S_len]; exact Nat.le_trans hz (by decide)))) (ed_var rfl du) rd_int) ed_int rd_int) ea_nil))) rfl ⟨l, 48, l.length - h + 1, hz, by omega, ?_, rfl⟩)
    (rd_cmp (f := fun i j => decide (i < j)))) ?_) o q
  · unfold holdsM
    congr 1
    rw [Bool.eq_iff_iff]
    simp only [decide_eq_true_eq]
    omega
  · rw [one1]
    rfl
  · rw [zero1]
    rw [S_len]
    show [strD l, PyData.str (S [48]), PyData.int ((l.length : Int) - (h : Int) + 1)] = [strD l, strD [48], .int ((l.length - h + 1 : Nat) : Int)]
    rw [show (l.length : Int) - (h : Int) + 1 = ((l.length - h + 1 : Nat) : Int) by omega]
    rfl
/-! ### on_in -/
def isOn (l : List Nat) : PyData → Bool
  | .tuple [.int h, .int lo] => holdsM l (h.toNat, lo.toNat)
  | _ => false
theorem on_data (l : List Nat) : (((rels l.length).map relD).filter (isOn l)).map id = (onM l).map relD := by
  rw [List.map_id, List.filter_map]
  rfl
def rOnIn (ds : List PyData) (d : PyData) : Prop := ∃ l : List Nat, l.length ≤ 100 ∧ ds = [strD l] ∧ d = .list ((onM l).map relD)
theorem scOnIn : FnScope ["memory", "relay"] ["memory"] (defScope sOnIn) := ⟨rfl, rfl, rfl, by decide +kernel, rfl, by decide +kernel, by decide +kernel⟩
theorem ok_onIn (D : Def K mg "on_in" sOnIn ["memory"]) (X : Txt mg) (F1 : Fn P w K mg base "all_relays" 1 ["span"] (spD T 1 rRels)) (F2 : Fn P w K mg base "holds" 2 ["memory", "relay"] (spD T 2 rHolds)) : Fn P w K mg base "on_in" 3 ["memory"] (spD T 1 rOnIn) := by
  refine D.fn scOnIn rfl fun f cdv A outer s H vs Q E M ds d hr hl hR o dv q => ?_
  obtain ⟨l, hz, rfl, rfl⟩ := hR
  obtain ⟨a, rfl, da⟩ := dv.one
  refine ⟨_, pss_one (ps_ret (pe_lc (own := [("relay", 1)]) (g := gName 1) rfl scOnIn.nd (pi_list (pe_callF F1 (hr.mono (by decide)) (by rfl) (pa_cons (pe_callB call_len_str (by rfl) X.len PySem.boot_len (pa_cons (pv 0) pa_nil)) pa_nil)))
    (blkOk_by (N := ["memory", "relay"]) (sc := defScope sOnIn) (by decide +kernel)) (fun _ _ _ _ _ => pg_name (i := 1) scOnIn.nd rfl (.inl rfl))
    (fun _ _ _ _ _ => pts_one (pt_val (pe_callF F2 hr (by rfl) (pa_cons (pv 0) (pa_cons (pv 1) pa_nil))))) (fun _ _ _ _ _ => pv 1))), ?_⟩
  refine go_ret (ed_is (ed_lc (p := isOn l) (f := id) (ei_list (ed_call (d := .list ((rels l.length).map relD)) (ea_cons (ed_cb (ea_cons (ed_var rfl da) ea_nil) (rdc_lenS (by rw [S_len]; exact Nat.le_trans hz (by decide)))) ea_nil) rfl ⟨l.length, hz, rfl, rfl⟩)) ?_ fun d hd x M5 s5 dx => ?_) (congrArg PyData.list (on_data l))) o q
  · rw [List.length_map]
    have := rels_len l.length
    have h2 : l.length * l.length ≤ 100 * 100 := Nat.mul_le_mul hz hz
    omega
  · obtain ⟨⟨h, lo⟩, hm, rfl⟩ := List.mem_map.mp hd
    have hm' := mem_rels.mp hm
    exact ⟨_, fun H1 Q s1 qq => qq, rfl, et_B (ed_call (ea_cons (ed_var rfl (da.mono s5)) (ea_cons (ed_var rfl dx) ea_nil)) rfl ⟨l, (h, lo), hz, hm'.2.1, rfl, rfl⟩), fun _ => ed_var rfl dx⟩
end
end Rb

set_option Elab.async false
set_option linter.all false
set_option maxRecDepth 100000
set_option maxHeartbeats 4000000
namespace Rb
open PySem L2 PySem.Spec PyProof.Rows
theorem hu65 {k : Nat} {A : Around} (r : Room k A) : A.units + 65 < cLine := by have := r.un; omega
theorem hu66 {k : Nat} {A : Around} (r : Room k A) : A.units + 66 < cLine := by have := r.un; omega
theorem hu70 {k : Nat} {A : Around} (r : Room k A) : A.units + 70 < cLine := by have := r.un; omega
section
variable {X : Cx}
/-- x in l, x not in l, l a list of data -/
def rInL (K : PySem.W.Frag) (neg : Bool) : R2 := fun x y H Q => ∃ d ds, Dp K H x d ∧ Dp K H y (.list ds) ∧ SeqAt.shaped d = true ∧ SeqAt.shaped (.list ds) = true ∧ Q (.bl (if neg then !(ds.any fun z => PyData.eqv z d) else ds.any fun z => PyData.eqv z d)) H
theorem op_inL (hu : X.A.units + 65 < cLine) : OpR X (compareOp .In) (rInL X.K false) := by
  intro pins s σ H x y v u Q I rx ry h
  obtain ⟨d, ds, hd, he, sd, se, q⟩ := h
  obtain ⟨as, r1⟩ := Dp.reads I d x v hd rx
  obtain ⟨bs, r2⟩ := Dp.reads I (.list ds) y u he ry
  exact SeqAt.in_list_reads r2 r1 (SeqAt.canLay_of_shaped se) (SeqAt.canLay_of_shaped sd) (room_in_shaped sd hu) ⟨.bl _, H, I, rfl, q⟩
theorem op_niL (hu : X.A.units + 65 < cLine) : OpR X (compareOp .NotIn) (rInL X.K true) := by
  intro pins s σ H x y v u Q I rx ry h
  obtain ⟨d, ds, hd, he, sd, se, q⟩ := h
  obtain ⟨as, r1⟩ := Dp.reads I d x v hd rx
  obtain ⟨bs, r2⟩ := Dp.reads I (.list ds) y u he ry
  exact SeqAt.notIn_list_reads r2 r1 (SeqAt.canLay_of_shaped se) (SeqAt.canLay_of_shaped sd) (room_in_shaped sd hu) ⟨.bl _, H, I, rfl, q⟩
theorem rd_inLd {K : PySem.W.Frag} {d : PyData} {ds : List PyData} (h1 : SeqAt.shaped d = true) (h2 : SeqAt.shaped (.list ds) = true) : Rd2 (rInL K false) d (.list ds) (.bool (memD ds d)) := fun x y M H Q s dx dy q =>
  ⟨d, ds, De.dp _ _ (dx.mono s), De.dp _ _ (dy.mono s), h1, h2, q _ M H (Ex.refl s) (.bl _)⟩
theorem rd_niLd {K : PySem.W.Frag} {d : PyData} {ds : List PyData} (h1 : SeqAt.shaped d = true) (h2 : SeqAt.shaped (.list ds) = true) : Rd2 (rInL K true) d (.list ds) (.bool (!memD ds d)) := fun x y M H Q s dx dy q =>
  ⟨d, ds, De.dp _ _ (dx.mono s), De.dp _ _ (dy.mono s), h1, h2, q _ M H (Ex.refl s) (.bl _)⟩
end
section
variable {P : Program} {w : World} {K : PySem.W.Frag} {mg : Str → Option Value} {base : Heap} {T : List Addr}
/-! ### need_relays, need_some -/
def rNeedRels (ds : List PyData) (d : PyData) : Prop := ∃ (n : Nat) (rs : List Rel), rs.Nodup ∧ (∀ r ∈ rs, r ∈ rels n) ∧ ds = [.int n, .tuple (rs.map relD)] ∧ d = .none
theorem scNeedRels : FnScope ["span", "relays", "index", "one"] ["span", "relays"] (defScope sNeedRels) := ⟨rfl, rfl, rfl, by decide +kernel, rfl, by decide +kernel, by decide +kernel⟩
theorem not_before {α : Type} [DecidableEq α] {l : List α} (h : l.Nodup) {i : Nat} {x : α} (e : l[i]? = some x) : x ∉ l.take i := fun hm => by
  obtain ⟨j, hj, ej⟩ := List.getElem_of_mem hm
  rw [List.getElem_take] at ej
  rw [List.length_take] at hj
  obtain ⟨hi, ei⟩ := List.getElem?_eq_some_iff.mp e
  have := (List.getElem_inj h).mp (ej.trans ei.symm)
  omega
theorem ok_needRels (D : Def K mg "need_relays" sNeedRels ["span", "relays"]) (X : Txt mg) (F1 : Fn P w K mg base "is_relay" 2 ["span", "value"] (spD T 2 rIsRel)) : Fn P w K mg base "need_relays" 3 ["span", "relays"] (spD T 2 rNeedRels) := by
  refine D.fn scNeedRels rfl fun f cdv A outer s H vs Q E M ds d hr hl hR o dv q => ?_
  obtain ⟨n, rs, hnd, hin, rfl, rfl⟩ := hR
  obtain ⟨a, b, rfl, da, db⟩ := dv.two
  refine ⟨_, pss_cons (ps_if (pt_not (pt_val (pe_callB call_isi (by rfl) X.isi (by decide +kernel) (pa_cons (pv 1) (pa_cons (pe_bltn (v := .ty "tuple") (by rfl) X.tuple (by decide +kernel) rfl) pa_nil))))) (pss_one ps_never) pss_nil)
    (pss_one (ps_for PassesOwn.never rfl (pi_enumT (by rfl) X.enum (pa_cons (pv 1) pa_nil)) (pg_tup rfl (pgs_cons (pg_name (i := 2) scNeedRels.nd rfl (.inl rfl)) (pgs_cons (pg_name (i := 3) scNeedRels.nd rfl (.inl rfl)) pgs_nil)))
      (pss_one (ps_if (PW.pt (pw_or (pt_not (pt_val (pe_callF F1 hr (by rfl) (pa_cons (pv 0) (pa_cons (pv 3) pa_nil)))))
        (pw_or1 (pt_cmpR (op_inT (hu65 hr)) (pv 3) (pe_slice sl_tup (pv 1) po_none (po_some (pv 2))) rfl)))) (pss_one ps_never) pss_nil)))), ?_⟩
  refine go_if (b := false) (et_is (et_not (et_B (ed_isi (ed_var rfl db) kb_tt))) rfl) o (fun z => nomatch z) fun _ M2 H2 e2 o2 => ?_
  refine for_d (ei_enumT (ea_cons (ed_var rfl (db.mono e2.m)) ea_nil)) o2 (fun i M' σ' H' => Ex M H M' H' ∧ ∃ (x y : Option V), σ' = [some a, some b, x, y]) (fun M3 H3 e3 => ⟨e2.trans e3, none, none, rfl⟩) ?_ ?_
  · rintro i d x M3 H3 M4 H4 σ3 N hd s3 o3 ⟨x3, xo, yo, rfl⟩ e4 o4 dx hN
    have x4 := x3.trans e4
    obtain ⟨j, e, he, rfl⟩ := mem_enD (List.mem_of_getElem? hd)
    obtain ⟨r, hrr, rfl⟩ := List.mem_map.mp (List.mem_of_getElem? he)
    have hj : j < rs.length := by
      have := (List.getElem?_eq_some_iff.mp he).1
      rwa [List.length_map] at this
    have hrj : rs[j]? = some r := by
      rw [List.getElem?_map] at he
      obtain ⟨r', h1, h2⟩ := Option.map_eq_some_iff.mp he
      rw [h1, relD_inj h2]
    obtain ⟨p, xs, rfl, hp, hxs⟩ := dx.tup_of
    obtain ⟨u, v, rfl, du, dv'⟩ := hxs.two
    refine ⟨p, [u, v], rfl, SqT.of (o4.s _ _ hp), rfl, u, [v], rfl, v, [], rfl, rfl, ?_⟩
    have hb : decide (r ∈ rs.take j) = false := decide_eq_false (not_before hnd hrj)
    refine go_if (b := false) (et_is (et_or (et_not (et_B (b := true) (ed_call (d := .bool true) (ea_cons (ed_var rfl (da.mono x4.m)) (ea_cons (ed_var rfl dv') ea_nil)) rfl ⟨n, r, hin r (List.mem_of_getElem? hrj), rfl, rfl⟩))) fun _ =>
      et_test (ed_op (ed_var rfl dv') (ed_sliceT (k := j) (ed_var rfl (db.mono x4.m)) (ed_var rfl du) (by rw [List.length_map]; exact hj)) (rd_inT (relD_shaped r) (by rw [← List.map_take]; exact relDs_shapedT _)))) ?_) o4 (fun z => nomatch z) fun _ M5 H5 e5 o5 => ?_
    · rw [← List.map_take, memD_rel, hb]
      rfl
    · exact hN M5 _ H5 e5.m o5 ⟨x4.trans e5, _, _, rfl⟩
  · rintro M5 σ5 H5 s5 o5 ⟨x5, xo, yo, rfl⟩
    exact q .non M5 H5 x5 .non
def rNeedSome (ds : List PyData) (d : PyData) : Prop := ∃ (n : Nat) (rs : List Rel), 1 ≤ n ∧ n ≤ 9 ∧ rs.Nodup ∧ (∀ r ∈ rs, r ∈ rels n) ∧ ds = [.int n, .tuple (rs.map relD)] ∧ d = .none
theorem scNeedSome : FnScope ["span", "relays"] ["span", "relays"] (defScope sNeedSome) := ⟨rfl, rfl, rfl, by decide +kernel, rfl, by decide +kernel, by decide +kernel⟩
theorem ok_needSome (D : Def K mg "need_some" sNeedSome ["span", "relays"]) (X : Txt mg) (F1 : Fn P w K mg base "need_span" 2 ["span"] (spD T 1 rNeedSpan)) (F2 : Fn P w K mg base "need_relays" 3 ["span", "relays"] (spD T 2 rNeedRels)) :
    Fn P w K mg base "need_some" 4 ["span", "relays"] (spD T 2 rNeedSome) := by
  refine D.fn scNeedSome rfl fun f cdv A outer s H vs Q E M ds d hr hl hR o dv q => ?_
  obtain ⟨n, rs, h1, h2, hnd, hin, rfl, rfl⟩ := hR
  obtain ⟨a, b, rfl, da, db⟩ := dv.two
  refine ⟨_, pss_cons (ps_expr (pe_callF F1 (hr.mono (by decide)) (by rfl) (pa_cons (pv 0) pa_nil))) (pss_one (ps_expr (pe_callF F2 hr (by rfl) (pa_cons (pv 0) (pa_cons (pv 1) pa_nil))))), ?_⟩
  refine go_drop (ed_call (d := .none) (ea_cons (ed_var rfl da) ea_nil) rfl ⟨n, h1, h2, rfl, rfl⟩) o fun M2 H2 e2 o2 => ?_
  refine Ed.go (d := .none) (ed_call (ea_cons (ed_var rfl (da.mono e2.m)) (ea_cons (ed_var rfl (db.mono e2.m)) ea_nil)) rfl ⟨n, rs, hnd, hin, rfl, rfl⟩) o2 fun v M3 H3 e3 o3 dv3 => ?_
  exact q .non M3 H3 (e2.trans e3) .non
/-! ### gap -/
def gapM (a b : List Rel) : Nat := (a.filter fun r => !decide (r ∈ b)).length + (b.filter fun r => !decide (r ∈ a)).length
def rGap (ds : List PyData) (d : PyData) : Prop := ∃ a b : List Rel, a.length ≤ 1000 ∧ b.length ≤ 1000 ∧ ds = [.list (a.map relD), .tuple (b.map relD)] ∧ d = natD (gapM a b)
theorem scGap : FnScope ["on", "relays", "one"] ["on", "relays"] (defScope sGap) := ⟨rfl, rfl, rfl, by decide +kernel, rfl, by decide +kernel, by decide +kernel⟩
def notIn (b : List Rel) (d : PyData) : Bool := !memD (b.map relD) d
theorem notIn_filter (a b : List Rel) : ((a.map relD).filter (notIn b)).map id = (a.filter fun r => !decide (r ∈ b)).map relD := by
  rw [List.map_id, List.filter_map]
  congr 1
  apply List.filter_congr
  intro r _
  show (!memD (b.map relD) (relD r)) = _
  rw [memD_rel]
theorem ok_gap (D : Def K mg "gap" sGap ["on", "relays"]) (X : Txt mg) : Fn P w K mg base "gap" 1 ["on", "relays"] (spD T 2 rGap) := by
  refine D.fn scGap rfl fun f cdv A outer s H vs Q E M ds d hr hl hR o dv q => ?_
  obtain ⟨a, b, ha, hb, rfl, rfl⟩ := hR
  obtain ⟨u, v, rfl, du, dv'⟩ := dv.two
  refine ⟨_, pss_one (ps_ret (pe_op op_add
    (pe_callB call_len_seq (by rfl) X.len PySem.boot_len (pa_cons (pe_lc (own := [("one", 2)]) (g := gName 2) (tt := tTest (tOp (rInT K true) (tVar 2) (tVar 1))) rfl scGap.nd (pi_list (pv 0)) (blkOk_by (N := ["on", "relays", "one"]) (sc := defScope sGap) (by decide +kernel)) (fun _ _ _ _ _ => pg_name (i := 2) scGap.nd rfl (.inl rfl))
      (fun _ _ _ _ _ => pts_one (pt_cmpR (op_niT (hu65 hr)) (pv 2) (pv 1) rfl)) (fun _ _ _ _ _ => pv 2)) pa_nil))
    (pe_callB call_len_seq (by rfl) X.len PySem.boot_len (pa_cons (pe_lc (own := [("one", 2)]) (g := gName 2) (tt := tTest (tOp (rInL K true) (tVar 2) (tVar 0))) rfl scGap.nd (pi_tup (pv 1)) (blkOk_by (N := ["on", "relays", "one"]) (sc := defScope sGap) (by decide +kernel)) (fun _ _ _ _ _ => pg_name (i := 2) scGap.nd rfl (.inl rfl))
      (fun _ _ _ _ _ => pts_one (pt_cmpR (op_niL (hu65 hr)) (pv 2) (pv 0) rfl)) (fun _ _ _ _ _ => pv 2)) pa_nil)))), ?_⟩
  refine go_ret (ed_is (ed_op (ed_cb (ea_cons (ed_is (ed_lc (p := notIn b) (f := id) (ei_list (ed_var rfl du)) (by rw [List.length_map]; omega) fun d hd x M5 s5 dx => ?_) (congrArg PyData.list (notIn_filter a b))) ea_nil) rdc_lenL)
    (ed_cb (ea_cons (ed_is (ed_lc (p := notIn a) (f := id) (ei_tup (ed_var rfl dv')) (by rw [List.length_map]; omega) fun d hd x M5 s5 dx => ?_) (congrArg PyData.list (notIn_filter b a))) ea_nil) rdc_lenL) rd_int) ?_) o q
  · obtain ⟨r, hm, rfl⟩ := List.mem_map.mp hd
    exact ⟨_, fun H1 Q s1 qq => qq, rfl, et_test (ed_op (ed_var rfl dx) (ed_var rfl (dv'.mono s5)) (rd_niT (relD_shaped r) (relDs_shapedT b))), fun _ => ed_var rfl dx⟩
  · obtain ⟨r, hm, rfl⟩ := List.mem_map.mp hd
    exact ⟨_, fun H1 Q s1 qq => qq, rfl, et_test (ed_op (ed_var rfl dx) (ed_var rfl (du.mono s5)) (rd_niLd (relD_shaped r) (relDs_shapedL a))), fun _ => ed_var rfl dx⟩
  · rw [List.length_map, List.length_map]
    unfold gapM natD
    congr 1
end
end Rb

set_option Elab.async false
set_option linter.all false
set_option maxRecDepth 100000
set_option maxHeartbeats 4000000
namespace Rb
open PySem L2 PySem.Spec PyProof.Rows
/-! ### pairs (number, memory) -/
abbrev Pr := Nat × List Nat
def pairD (p : Pr) : PyData := .tuple [.int ((p.1 : Nat) : Int), strD p.2]
def ltL : List Nat → List Nat → Bool
  | [], [] => false
  | [], _ :: _ => true
  | _ :: _, [] => false
  | a :: l, b :: m => if a < b then true else if b < a then false else ltL l m
theorem ltL_lt : ∀ l m : List Nat, ltL l m = decide (l < m)
  | [], [] => by simp [ltL]
  | [], _ :: _ => by simp [ltL]
  | _ :: _, [] => by simp [ltL]
  | a :: l, b :: m => by
    unfold ltL
    rw [ltL_lt l m, Bool.eq_iff_iff]
    simp only [decide_eq_true_eq, List.cons_lt_cons_iff]
    split
    · simp; omega
    · split
      · simp; omega
      · have e : a = b := by omega
        simp [e]
def ltP (p q : Pr) : Bool := decide (p.1 < q.1) || (decide (p.1 = q.1) && ltL p.2 q.2)
theorem alike_pair (p q : Pr) : PySem.W.alike (pairD p) (pairD q) = true := by
  simp [pairD, strD, PySem.W.alike, PySem.W.alikeAll]
theorem eqv_nat (a b : Nat) : PyData.eqv (.int (a : Int)) (.int (b : Int)) = decide (a = b) := by
  simp only [PyData.eqv]
  rw [Bool.eq_iff_iff]
  simp
  omega
theorem eqv_S (l m : List Nat) : PyData.eqv (.str (S l)) (.str (S m)) = decide (l = m) := by
  simp only [PyData.eqv]
  rw [Bool.eq_iff_iff]
  simp [S_inj]
theorem dataLt_pr (a b : Nat) (l m : List Nat) : PySem.W.dataLt (.tuple [.int (a : Int), .str (S l)]) (.tuple [.int (b : Int), .str (S m)]) = ltP (a, l) (b, m) := by
  rw [PySem.W.dataLt_pair (by simp [PySem.W.alike]) (by simp [PySem.W.alike]), PySem.W.dataLt_int, PySem.W.dataLt_str, eqv_nat, eqv_S]
  unfold ltP
  simp only [S_list]
  rw [ltL_lt]
  by_cases e : a = b
  · subst e
    by_cases f : l = m
    · subst f
      simp
    · rw [Bool.eq_iff_iff]
      simp [f]
      exact decide_eq_true_iff
  · simp [e]
theorem dataLt_pairD (p q : Pr) : PySem.W.dataLt (pairD p) (pairD q) = ltP p q := dataLt_pr p.1 q.1 p.2 q.2
def minP (p : Pr) (ps : List Pr) : Pr := ps.foldl (fun a y => if ltP y a then y else a) p
def maxP (p : Pr) (ps : List Pr) : Pr := ps.foldl (fun a y => if ltP a y then y else a) p
theorem minD_pair (p : Pr) (ps : List Pr) : PySem.W.minD (pairD p) (ps.map pairD) = pairD (minP p ps) := by
  unfold PySem.W.minD minP
  induction ps generalizing p with
  | nil => rfl
  | cons y ys ih =>
    rw [List.map_cons, List.foldl_cons, List.foldl_cons, ← ih]
    rw [dataLt_pairD]
    cases ltP y p <;> rfl
theorem maxD_pair (p : Pr) (ps : List Pr) : PySem.W.maxD (pairD p) (ps.map pairD) = pairD (maxP p ps) := by
  unfold PySem.W.maxD maxP
  induction ps generalizing p with
  | nil => rfl
  | cons y ys ih =>
    rw [List.map_cons, List.foldl_cons, List.foldl_cons, ← ih]
    rw [dataLt_pairD]
    cases ltP p y <;> rfl
theorem alike_pairs (p : Pr) (ps : List Pr) : PySem.W.AlikeAll (pairD p :: ps.map pairD) := by
  have h : ∀ x ∈ pairD p :: ps.map pairD, ∃ q, x = pairD q := fun x hx => by
    rcases List.mem_cons.mp hx with e | hx
    · exact ⟨p, e⟩
    · obtain ⟨q, _, e⟩ := List.mem_map.mp hx
      exact ⟨q, e.symm⟩
  refine ⟨fun x hx y hy => ?_, fun x hx => ?_⟩
  · obtain ⟨q, rfl⟩ := h x hx
    obtain ⟨r, rfl⟩ := h y hy
    exact alike_pair q r
  · obtain ⟨q, rfl⟩ := h x hx
    exact fun z => nomatch z
theorem depth_pair (p : Pr) : (pairD p).depth = 1 := by simp [pairD, strD, PyData.depth, PyData.depthAll]
theorem depth_pairs : ∀ ps : List Pr, PyData.depthAll (ps.map pairD) ≤ 1
  | [] => by simp [PyData.depthAll]
  | p :: ps => by
    have h1 := depth_pairs ps
    have h2 := depth_pair p
    simp only [List.map_cons, PyData.depthAll]
    omega
/-! ### what is found -/
def isAbove (rs : List Rel) (m : List Nat) : Bool := rs.all fun r => decide (r ∈ onM m)
def isBelow (rs : List Rel) (m : List Nat) : Bool := (onM m).all fun r => decide (r ∈ rs)
def prOf (m : List Nat) : Pr := ((onM m).length, m)
def foundA (n : Nat) (rs : List Rel) : List Pr := ((mems n).filter (isAbove rs)).map prOf
def foundB (n : Nat) (rs : List Rel) : List Pr := ((mems n).filter (isBelow rs)).map prOf
def leastM (n : Nat) (rs : List Rel) : List Nat := match foundA n rs with
  | [] => []
  | p :: ps => (minP p ps).2
def greatM (n : Nat) (rs : List Rel) : List Nat := match foundB n rs with
  | [] => []
  | p :: ps => (maxP p ps).2
theorem all_mem (rs : List Rel) (on : List Rel) : (rs.map relD).all (memD (on.map relD)) = rs.all fun r => decide (r ∈ on) := by
  rw [List.all_map]
  congr 1
  funext r
  show memD (on.map relD) (relD r) = _
  rw [memD_rel]
section
variable {T : List Addr} {M H : Hp} {σ : L2.St} {D : Ends} {te : TE} {d : PyData} {K : PySem.W.Frag}
/-- xs.append(e) to a list under way -/
theorem go_app {M2 H2 : Hp} {L : Addr} {out : List PyData} {acc : List V} {i : Nat} (a : Acc T M2 H2 L out M H acc) (hz : out.length < 90000) (hi : σ[i]? = some (some (.ref L))) (h : Ed T te σ M d)
    (k : ∀ M5 H5 acc5, Same M M5 → Acc T M2 H2 L (out ++ [d]) M5 H5 acc5 → D.nx σ H5) : tDrop (tBM K "list" rAppend (tVar i) (tCons te tNil)) D σ H := by
  refine ⟨.ref L, hi, .inl ⟨rfl, _, SqL.of a.d⟩, ?_⟩
  refine h.go a.o fun v M5 H5 e5 o5 dv => ?_
  have a5 := a.step e5
  exact ⟨L, acc, v, rfl, rfl, a5.d, a5.lt (by omega), k M5 _ _ e5.m (a5.push dv)⟩
end
theorem onM_len (l : List Nat) (h : l.length ≤ 9) : (onM l).length ≤ 81 := by
  unfold onM
  have h1 := List.length_filter_le (holdsM l) (rels l.length)
  have h2 := rels_len l.length
  have h3 : l.length * l.length ≤ 9 * 9 := Nat.mul_le_mul h h
  omega
section
variable {P : Program} {w : World} {K : PySem.W.Frag} {mg : Str → Option Value} {base : Heap} {T : List Addr}
/-! ### least_above -/
def rLeast (ds : List PyData) (d : PyData) : Prop := ∃ (n : Nat) (rs : List Rel), 1 ≤ n ∧ n ≤ 9 ∧ rs.Nodup ∧ (∀ r ∈ rs, r ∈ rels n) ∧ foundA n rs ≠ [] ∧ ds = [.int n, .tuple (rs.map relD)] ∧ d = strD (leastM n rs)
theorem scLeast : FnScope ["span", "relays", "found", "memory", "on"] ["span", "relays"] (defScope sLeast) := ⟨rfl, rfl, rfl, by decide +kernel, rfl, by decide +kernel, by decide +kernel⟩
theorem ok_least {c P1 : Addr} (hT : P1 ∈ T) (TB : GxR.TabB base mg c P1) (D : DefC K mg "least_above" sLeast ["span", "relays"] c) (X : Txt mg) (F1 : Fn P w K mg base "need_some" 4 ["span", "relays"] (spD T 2 rNeedSome))
    (F2 : Fn P w K mg base "all_memories" 1 ["span"] (spD T 1 rMems)) (F3 : Fn P w K mg base "on_in" 3 ["memory"] (spD T 1 rOnIn)) : Fn P w K mg base "least_above" 5 ["span", "relays"] (spD T 2 rLeast) := by
  refine D.fn scLeast rfl fun f A outer s H vs Q E M ds d hr hl hR o dv q => ?_
  obtain ⟨n, rs, h1, h2, hnd, hin, hne, rfl, rfl⟩ := hR
  obtain ⟨a, b, rfl, da, db⟩ := dv.two
  refine ⟨_, pss_cons (ps_expr (pe_callF F1 hr (by rfl) (pa_cons (pv 0) (pa_cons (pv 1) pa_nil))))
    (pss_cons (ps_set (i := 2) scLeast.nd rfl (.inl rfl) (pe_lst pa_nil))
    (pss_cons (ps_for PassesOwn.never rfl (pi_list (pe_callF F2 (hr.mono (by decide)) (by rfl) (pa_cons (pv 0) pa_nil))) (pg_name (i := 3) scLeast.nd rfl (.inl rfl))
      (pss_cons (ps_set (i := 4) scLeast.nd rfl (.inr rfl) (pe_callF F3 (hr.mono (by decide)) (by rfl) (pa_cons (pv 3) pa_nil)))
      (pss_one (ps_if (pt_val (pe_allIn (j := 4) hr (by rfl) X.all (by decide +kernel) TB rfl ⟨rfl, rfl, by decide +kernel, rfl, rfl, fun y hy hf => ?_⟩ (pv 1) rfl rfl rfl (fun _ => rfl) rfl rfl rfl (fun _ => rfl)))
        (pss_one (ps_expr (pe_bm PySem.F.plainAttrs_list PySem.F.slot_list_append PySem.F.type_list_append mt_append (pv 2) (pa_cons (pe_tup (pa_cons (pe_callB call_len_seq (by rfl) X.len PySem.boot_len (pa_cons (pv 4) pa_nil)) (pa_cons (pv 3) pa_nil))) pa_nil)))) pss_nil))))
    (pss_one (ps_ret (pe_ix ix_tup (pe_callB (cr_minD rfl (hu66 hr)) (by rfl) X.min (by decide +kernel) (pa_cons (pv 2) pa_nil)) pe_int (fun _ _ => rfl)))))), ?_⟩
  · have hy' : y = (("on" : Str), NameKind.free) := by
      rcases List.mem_cons.mp hy with e | hy
      · subst e; cases hf
      · rcases List.mem_cons.mp hy with e | hy
        · subst e; cases hf
        · rcases List.mem_cons.mp hy with e | hy
          · exact e
          · cases hy
    subst hy'
    exact cell_has (sc := defScope sLeast) rfl
  · refine go_drop (ed_call (d := .none) (ea_cons (ed_var rfl da) (ea_cons (ed_var rfl db) ea_nil)) rfl ⟨n, rs, h1, h2, hnd, hin, rfl, rfl⟩) o fun M2 H2 e2 o2 => ?_
    refine ⟨Nat.zero_le _, fun L hL => ?_⟩
    have A0 : Acc T M2 H2 L [] M2 (upd H2 L (.lst [])) [] := Acc.start o2 hL
    have da2 := da.mono e2.m
    have db2 := db.mono e2.m
    refine for_s (ei_list (ed_call (d := .list ((mems n).map strD)) (ea_cons (ed_var rfl da2) ea_nil) rfl ⟨n, h2, rfl, rfl⟩)) A0.o (fun i M' σ' H' => ∃ (x y : Option V) (acc : List V), σ' = [some a, some b, some (.ref L), x, y] ∧ Acc T M2 H2 L ((((mems n).take i).filter (isAbove rs)).map fun m => pairD (prOf m)) M' H' acc)
      (fun M3 H3 e3 => ⟨none, none, [], rfl, A0.step e3⟩) ?_ ?_
    · rintro i d x M3 H3 M4 H4 σ3 N hd s3 o3 ⟨xo, yo, acc, rfl, a3⟩ e4 o4 dx hN
      have a4 := a3.step e4
      obtain ⟨m, hm, rfl⟩ := List.mem_map.mp (List.mem_of_getElem? hd)
      have hmi : (mems n)[i]? = some m := by
        rw [List.getElem?_map] at hd
        obtain ⟨m', h1, h2⟩ := Option.map_eq_some_iff.mp hd
        have e : m' = m := by
          unfold strD at h2
          injection h2 with h2
          exact S_inj.mp h2
        rw [h1, e]
      have hml := mems_len n m hm
      have etake : (mems n).take (i + 1) = (mems n).take i ++ [m] := by rw [List.take_add_one, hmi]; rfl
      refine go_set (ed_call (d := .list ((onM m).map relD)) (ea_cons (ed_var rfl dx) ea_nil) rfl ⟨m, by omega, rfl, rfl⟩) o4 fun v5 M5 H5 e5 o5 dv5 => ?_
      have a5 := a4.step e5
      refine go_if (b := isAbove rs m) (et_is (et_B (ed_allIn (yv := v5) (ds := rs.map relD) (es := (onM m).map relD) hT (.inr (ed_var rfl ((db2.mono a5.m)))) rfl (.inl dv5) (relDs_shapedL _) (relDs_shapedT _) fun d hd => ?_)) (all_mem rs (onM m))) o5 (fun hb M6 H6 e6 o6 => ?_) fun hb M6 H6 e6 o6 => ?_
      · obtain ⟨r, _, rfl⟩ := List.mem_map.mp hd
        exact relD_shaped r
      · have a6 := a5.step e6
        refine go_app (a6) ?_ rfl (ed_tup (ea_cons (ed_cb (ea_cons (ed_var rfl (dv5.mono e6.m)) ea_nil) rdc_lenL) (ea_cons (ed_var rfl (dx.mono (e5.m.trans e6.m))) ea_nil)) (by show 2 ≤ 100000; decide)) fun M7 H7 acc7 s7 a7 => ?_
        · have q1 := List.length_filter_le (isAbove rs) ((mems n).take i)
          have q2 : ((mems n).take i).length ≤ (mems n).length := by rw [List.length_take]; omega
          have q3 : 2 ^ n ≤ 2 ^ 9 := Nat.pow_le_pow_right (by decide) h2
          rw [mems_count] at q2
          rw [List.length_map]
          omega
        · refine hN M7 _ H7 ((e5.m.trans e6.m).trans s7) a7.o ⟨_, _, acc7, rfl, ?_⟩
          have e9 : (List.map (fun m => pairD (prOf m)) (List.filter (isAbove rs) [m])) = [PyData.tuple [.int (((onM m).map relD).length : Nat), strD m]] := by
            rw [List.filter_cons, if_pos hb, List.length_map]
            rfl
          rw [etake, List.filter_append, List.map_append, e9]
          exact a7
      · refine hN M6 _ H6 (e5.m.trans e6.m) o6 ⟨_, _, acc, rfl, ?_⟩
        have e9 : (List.map (fun m => pairD (prOf m)) (List.filter (isAbove rs) [m])) = [] := by
          rw [List.filter_cons, if_neg (by rw [hb]; decide)]
          rfl
        rw [etake, List.filter_append, List.map_append, e9, List.append_nil]
        exact a5.step e6
    · rintro M5 σ5 H5 s5 o5 ⟨xo, yo, acc, rfl, a5⟩
      have elen : ((mems n).map strD).length = (mems n).length := List.length_map _
      rw [elen, List.take_length] at a5
      obtain ⟨f1, f2⟩ := a5.fin
      have ef : (((mems n).filter (isAbove rs)).map fun m => pairD (prOf m)) = (foundA n rs).map pairD := by
        unfold foundA
        rw [List.map_map]
        rfl
      rw [ef] at f2
      cases hf : foundA n rs with
      | nil => exact absurd hf hne
      | cons p ps =>
        rw [hf, List.map_cons] at f2
        have hp : PySem.W.minD (pairD p) (ps.map pairD) = pairD (minP p ps) := minD_pair p ps
        have hdep : PyData.depthAll (pairD p :: ps.map pairD) ≤ 64 := by
          have := depth_pairs (p :: ps)
          rw [List.map_cons] at this
          omega
        refine go_ret (d := strD (leastM n rs)) (ed_op (d1 := pairD (minP p ps)) (ed_is (ed_cb (ea_cons (ed_var rfl f2) ea_nil) (rdc_min (alike_pairs p ps) hdep)) hp) ed_int (rd_ixT (j := 1) rfl ?_)) (o2.ex f1) fun v6 M6 H6 e6 dv6 => q v6 M6 H6 ((e2.trans f1).trans e6) dv6
        unfold leastM
        rw [hf]
        rfl
/-! ### greatest_below -/
def rGreat (ds : List PyData) (d : PyData) : Prop := ∃ (n : Nat) (rs : List Rel), 1 ≤ n ∧ n ≤ 9 ∧ rs.Nodup ∧ (∀ r ∈ rs, r ∈ rels n) ∧ foundB n rs ≠ [] ∧ ds = [.int n, .tuple (rs.map relD)] ∧ d = strD (greatM n rs)
theorem scGreat : FnScope ["span", "relays", "found", "memory", "on"] ["span", "relays"] (defScope sGreat) := ⟨rfl, rfl, rfl, by decide +kernel, rfl, by decide +kernel, by decide +kernel⟩
theorem ok_great {c P1 : Addr} (hT : P1 ∈ T) (TB : GxR.TabB base mg c P1) (D : DefC K mg "greatest_below" sGreat ["span", "relays"] c) (X : Txt mg) (F1 : Fn P w K mg base "need_some" 4 ["span", "relays"] (spD T 2 rNeedSome))
    (F2 : Fn P w K mg base "all_memories" 1 ["span"] (spD T 1 rMems)) (F3 : Fn P w K mg base "on_in" 3 ["memory"] (spD T 1 rOnIn)) : Fn P w K mg base "greatest_below" 5 ["span", "relays"] (spD T 2 rGreat) := by
  refine D.fn scGreat rfl fun f A outer s H vs Q E M ds d hr hl hR o dv q => ?_
  obtain ⟨n, rs, h1, h2, hnd, hin, hne, rfl, rfl⟩ := hR
  obtain ⟨a, b, rfl, da, db⟩ := dv.two
  refine ⟨_, pss_cons (ps_expr (pe_callF F1 hr (by rfl) (pa_cons (pv 0) (pa_cons (pv 1) pa_nil))))
    (pss_cons (ps_set (i := 2) scGreat.nd rfl (.inl rfl) (pe_lst pa_nil))
    (pss_cons (ps_for PassesOwn.never rfl (pi_list (pe_callF F2 (hr.mono (by decide)) (by rfl) (pa_cons (pv 0) pa_nil))) (pg_name (i := 3) scGreat.nd rfl (.inl rfl))
      (pss_cons (ps_set (i := 4) scGreat.nd rfl (.inl rfl) (pe_callF F3 (hr.mono (by decide)) (by rfl) (pa_cons (pv 3) pa_nil)))
      (pss_one (ps_if (pt_val (pe_allIn (j := 1) hr (by rfl) X.all (by decide +kernel) TB rfl ⟨rfl, rfl, by decide +kernel, rfl, rfl, fun y hy hf => ?_⟩ (pv 4) rfl rfl rfl (fun _ => rfl) rfl rfl rfl (fun _ => rfl)))
        (pss_one (ps_expr (pe_bm PySem.F.plainAttrs_list PySem.F.slot_list_append PySem.F.type_list_append mt_append (pv 2) (pa_cons (pe_tup (pa_cons (pe_callB call_len_seq (by rfl) X.len PySem.boot_len (pa_cons (pv 4) pa_nil)) (pa_cons (pv 3) pa_nil))) pa_nil)))) pss_nil))))
    (pss_one (ps_ret (pe_ix ix_tup (pe_callB (cr_maxD rfl (hu66 hr)) (by rfl) X.max (by decide +kernel) (pa_cons (pv 2) pa_nil)) pe_int (fun _ _ => rfl)))))), ?_⟩
  · have hy' : y = (("relays" : Str), NameKind.free) := by
      rcases List.mem_cons.mp hy with e | hy
      · subst e; cases hf
      · rcases List.mem_cons.mp hy with e | hy
        · subst e; cases hf
        · rcases List.mem_cons.mp hy with e | hy
          · exact e
          · cases hy
    subst hy'
    exact cell_has (sc := defScope sGreat) rfl
  · refine go_drop (ed_call (d := .none) (ea_cons (ed_var rfl da) (ea_cons (ed_var rfl db) ea_nil)) rfl ⟨n, rs, h1, h2, hnd, hin, rfl, rfl⟩) o fun M2 H2 e2 o2 => ?_
    refine ⟨Nat.zero_le _, fun L hL => ?_⟩
    have A0 : Acc T M2 H2 L [] M2 (upd H2 L (.lst [])) [] := Acc.start o2 hL
    have da2 := da.mono e2.m
    have db2 := db.mono e2.m
    refine for_s (ei_list (ed_call (d := .list ((mems n).map strD)) (ea_cons (ed_var rfl da2) ea_nil) rfl ⟨n, h2, rfl, rfl⟩)) A0.o (fun i M' σ' H' => ∃ (x y : Option V) (acc : List V), σ' = [some a, some b, some (.ref L), x, y] ∧ Acc T M2 H2 L ((((mems n).take i).filter (isBelow rs)).map fun m => pairD (prOf m)) M' H' acc)
      (fun M3 H3 e3 => ⟨none, none, [], rfl, A0.step e3⟩) ?_ ?_
    · rintro i d x M3 H3 M4 H4 σ3 N hd s3 o3 ⟨xo, yo, acc, rfl, a3⟩ e4 o4 dx hN
      have a4 := a3.step e4
      obtain ⟨m, hm, rfl⟩ := List.mem_map.mp (List.mem_of_getElem? hd)
      have hmi : (mems n)[i]? = some m := by
        rw [List.getElem?_map] at hd
        obtain ⟨m', h1, h2⟩ := Option.map_eq_some_iff.mp hd
        have e : m' = m := by
          unfold strD at h2
          injection h2 with h2
          exact S_inj.mp h2
        rw [h1, e]
      have hml := mems_len n m hm
      have etake : (mems n).take (i + 1) = (mems n).take i ++ [m] := by rw [List.take_add_one, hmi]; rfl
      refine go_set (ed_call (d := .list ((onM m).map relD)) (ea_cons (ed_var rfl dx) ea_nil) rfl ⟨m, by omega, rfl, rfl⟩) o4 fun v5 M5 H5 e5 o5 dv5 => ?_
      have a5 := a4.step e5
      refine go_if (b := isBelow rs m) (et_is (et_B (ed_allIn (yv := b) (ds := (onM m).map relD) (es := rs.map relD) hT (.inl (ed_var rfl dv5)) rfl (.inr (db2.mono a5.m)) (relDs_shapedL _) (relDs_shapedT _) fun d hd => ?_)) (all_mem (onM m) rs)) o5 (fun hb M6 H6 e6 o6 => ?_) fun hb M6 H6 e6 o6 => ?_
      · obtain ⟨r, _, rfl⟩ := List.mem_map.mp hd
        exact relD_shaped r
      · have a6 := a5.step e6
        refine go_app (a6) ?_ rfl (ed_tup (ea_cons (ed_cb (ea_cons (ed_var rfl (dv5.mono e6.m)) ea_nil) rdc_lenL) (ea_cons (ed_var rfl (dx.mono (e5.m.trans e6.m))) ea_nil)) (by show 2 ≤ 100000; decide)) fun M7 H7 acc7 s7 a7 => ?_
        · have q1 := List.length_filter_le (isBelow rs) ((mems n).take i)
          have q2 : ((mems n).take i).length ≤ (mems n).length := by rw [List.length_take]; omega
          have q3 : 2 ^ n ≤ 2 ^ 9 := Nat.pow_le_pow_right (by decide) h2
          rw [mems_count] at q2
          rw [List.length_map]
          omega
        · refine hN M7 _ H7 ((e5.m.trans e6.m).trans s7) a7.o ⟨_, _, acc7, rfl, ?_⟩
          have e9 : (List.map (fun m => pairD (prOf m)) (List.filter (isBelow rs) [m])) = [PyData.tuple [.int (((onM m).map relD).length : Nat), strD m]] := by
            rw [List.filter_cons, if_pos hb, List.length_map]
            rfl
          rw [etake, List.filter_append, List.map_append, e9]
          exact a7
      · refine hN M6 _ H6 (e5.m.trans e6.m) o6 ⟨_, _, acc, rfl, ?_⟩
        have e9 : (List.map (fun m => pairD (prOf m)) (List.filter (isBelow rs) [m])) = [] := by
          rw [List.filter_cons, if_neg (by rw [hb]; decide)]
          rfl
        rw [etake, List.filter_append, List.map_append, e9, List.append_nil]
        exact a5.step e6
    · rintro M5 σ5 H5 s5 o5 ⟨xo, yo, acc, rfl, a5⟩
      have elen : ((mems n).map strD).length = (mems n).length := List.length_map _
      rw [elen, List.take_length] at a5
      obtain ⟨f1, f2⟩ := a5.fin
      have ef : (((mems n).filter (isBelow rs)).map fun m => pairD (prOf m)) = (foundB n rs).map pairD := by
        unfold foundB
        rw [List.map_map]
        rfl
      rw [ef] at f2
      cases hf : foundB n rs with
      | nil => exact absurd hf hne
      | cons p ps =>
        rw [hf, List.map_cons] at f2
        have hp : PySem.W.maxD (pairD p) (ps.map pairD) = pairD (maxP p ps) := maxD_pair p ps
        have hdep : PyData.depthAll (pairD p :: ps.map pairD) ≤ 64 := by
          have := depth_pairs (p :: ps)
          rw [List.map_cons] at this
          omega
        refine go_ret (d := strD (greatM n rs)) (ed_op (d1 := pairD (maxP p ps)) (ed_is (ed_cb (ea_cons (ed_var rfl f2) ea_nil) (rdc_max (alike_pairs p ps) hdep)) hp) ed_int (rd_ixT (j := 1) rfl ?_)) (o2.ex f1) fun v6 M6 H6 e6 dv6 => q v6 M6 H6 ((e2.trans f1).trans e6) dv6
        unfold greatM
        rw [hf]
        rfl
end
end Rb

set_option Elab.async false
set_option linter.all false
set_option maxRecDepth 100000
set_option maxHeartbeats 4000000
namespace Rb
open PySem L2 PySem.Spec PyProof.Rows
theorem filt_true {α : Type} (l : List α) : (l.filter fun _ => true) = l := List.filter_eq_self.mpr fun _ _ => rfl
/-! ### nearest_memories -/
def gapPr (rs : List Rel) (m : List Nat) : Pr := (gapM (onM m) rs, m)
/-- the least first number of pairs (0 of none) -/
def lowP : List Pr → Nat
  | [] => 0
  | p :: ps => (minP p ps).1
def nearLeast (n : Nat) (rs : List Rel) : Nat := lowP ((mems n).map (gapPr rs))
def nearM (n : Nat) (rs : List Rel) : List (List Nat) := (mems n).filter fun m => decide (gapM (onM m) rs = nearLeast n rs)
def gapOf (rs : List Rel) : PyData → PyData
  | .str z => pairD (gapM (onM z.cps.toList) rs, z.cps.toList)
  | d => d
def hasGap (k : Nat) : PyData → Bool
  | .tuple [.int i, _] => decide (i = (k : Int))
  | _ => false
def sndD : PyData → PyData
  | .tuple (_ :: d :: _) => d
  | d => d
theorem gap_list (n : Nat) (rs : List Rel) : (((mems n).map strD).filter fun _ => true).map (gapOf rs) = ((mems n).map (gapPr rs)).map pairD := by
  rw [filt_true, List.map_map, List.map_map]
  rfl
theorem near_list (n k : Nat) (rs : List Rel) : ((((mems n).map (gapPr rs)).map pairD).filter (hasGap k)).map sndD = ((mems n).filter fun m => decide (gapM (onM m) rs = k)).map strD := by
  rw [List.map_map, List.filter_map, List.map_map]
  have h1 : (mems n).filter (hasGap k ∘ pairD ∘ gapPr rs) = (mems n).filter fun m => decide (gapM (onM m) rs = k) := by
    apply List.filter_congr
    intro m _
    show decide (((gapM (onM m) rs : Nat) : Int) = (k : Int)) = _
    rw [Bool.eq_iff_iff]
    simp only [decide_eq_true_eq]
    omega
  rw [h1]
  rfl
theorem mems_ne (n : Nat) : mems n ≠ [] := fun h => by
  have := mems_count n
  rw [h] at this
  have h2 : 0 < 2 ^ n := Nat.pow_pos (by decide)
  simp at this
  omega
section
variable {P : Program} {w : World} {K : PySem.W.Frag} {mg : Str → Option Value} {base : Heap} {T : List Addr}
def rNear (ds : List PyData) (d : PyData) : Prop := ∃ (n : Nat) (rs : List Rel), 1 ≤ n ∧ n ≤ 9 ∧ rs.Nodup ∧ (∀ r ∈ rs, r ∈ rels n) ∧ rs.length ≤ 1000 ∧ ds = [.int n, .tuple (rs.map relD)] ∧ d = .tuple [natD (nearLeast n rs), .tuple ((nearM n rs).map strD)]
theorem scNear : FnScope ["span", "relays", "some", "least", "memory", "changes"] ["span", "relays"] (defScope sNear) := ⟨rfl, rfl, rfl, by decide +kernel, rfl, by decide +kernel, by decide +kernel⟩
theorem ok_near (D : Def K mg "nearest_memories" sNear ["span", "relays"]) (X : Txt mg) (F1 : Fn P w K mg base "need_some" 4 ["span", "relays"] (spD T 2 rNeedSome))
    (F2 : Fn P w K mg base "all_memories" 1 ["span"] (spD T 1 rMems)) (F3 : Fn P w K mg base "on_in" 3 ["memory"] (spD T 1 rOnIn)) (F4 : Fn P w K mg base "gap" 1 ["on", "relays"] (spD T 2 rGap)) : Fn P w K mg base "nearest_memories" 5 ["span", "relays"] (spD T 2 rNear) := by
  refine D.fn scNear rfl fun f cdv A outer s H vs Q E M ds d hr hl hR o dv q => ?_
  obtain ⟨n, rs, h1, h2, hnd, hin, hlen, rfl, rfl⟩ := hR
  obtain ⟨a, b, rfl, da, db⟩ := dv.two
  refine ⟨_, pss_cons (ps_expr (pe_callF F1 hr (by rfl) (pa_cons (pv 0) (pa_cons (pv 1) pa_nil))))
    (pss_cons (ps_setLc (i := 2) (own := [("memory", 4)]) (g := gName 4) rfl scNear.nd rfl rfl (sw_true rfl rfl rfl (by decide +kernel)) (pi_list (pe_callF F2 (hr.mono (by decide)) (by rfl) (pa_cons (pv 0) pa_nil)))
      (blkOk_by (N := ["span", "relays", "some", "least", "memory", "changes"]) (sc := defScope sNear) (by decide +kernel)) (fun _ _ _ _ _ => pg_name (i := 4) scNear.nd rfl (.inl rfl)) (fun _ _ _ _ _ => pts_nil)
      (fun _ _ _ _ _ => pe_tup (pa_cons (pe_callF F4 (hr.mono (by decide)) (by rfl) (pa_cons (pe_callF F3 (hr.mono (by decide)) (by rfl) (pa_cons (pv 4) pa_nil)) (pa_cons (pv 1) pa_nil))) (pa_cons (pv 4) pa_nil))))
    (pss_cons (ps_set (i := 3) scNear.nd rfl (.inr rfl) (pe_ix ix_tup (pe_callB (cr_minD rfl (hu66 hr)) (by rfl) X.min (by decide +kernel) (pa_cons (pv 2) pa_nil)) pe_int (fun _ _ => rfl)))
    (pss_one (ps_ret (pe_tup (pa_cons (pv 3) (pa_cons (pe_callTy call_tuple_of (by rfl) X.tuple (by decide +kernel) (pa_cons
      (pe_lc (own := [("changes", 5), ("memory", 4)]) (g := gTup K 2 (gCons (gName 5) (gCons (gName 4) gNil))) (tt := tTest (tOp rEq (tVar 5) (tVar 3))) rfl scNear.nd (pi_list (pv 2))
        (blkOk_by (N := ["span", "relays", "some", "least", "memory", "changes"]) (sc := defScope sNear) (by decide +kernel))
        (fun _ _ _ _ _ => pg_tup rfl (pgs_cons (pg_name (i := 5) scNear.nd rfl (.inl rfl)) (pgs_cons (pg_name (i := 4) scNear.nd rfl (.inl rfl)) pgs_nil)))
        (fun _ _ _ _ _ => pts_one (pt_cmpR op_eq (pv 5) (pv 3) (nomark _))) (fun _ _ _ _ _ => pv 4)) pa_nil)) pa_nil))))))), ?_⟩
  refine go_drop (ed_call (d := .none) (ea_cons (ed_var rfl da) (ea_cons (ed_var rfl db) ea_nil)) rfl ⟨n, rs, h1, h2, hnd, hin, rfl, rfl⟩) o fun M2 H2 e2 o2 => ?_
  have da2 := da.mono e2.m
  have db2 := db.mono e2.m
  have hcount : (mems n).length ≤ 512 := by
    rw [mems_count]
    exact Nat.pow_le_pow_right (by decide) h2
  refine go_set (ed_is (ed_lc (p := fun _ => true) (f := gapOf rs) (ei_list (ed_call (d := .list ((mems n).map strD)) (ea_cons (ed_var rfl da2) ea_nil) rfl ⟨n, h2, rfl, rfl⟩)) ?_ fun d hd x M5 s5 dx => ?_) (congrArg PyData.list (gap_list n rs))) o2 fun v M3 H3 e3 o3 dv3 => ?_
  · rw [List.length_map]; omega
  · obtain ⟨m, hm, rfl⟩ := List.mem_map.mp hd
    have hml := mems_len n m hm
    refine ⟨_, fun H1 Q s1 qq => qq, rfl, et_yes, fun _ => ed_is (ed_tup (ea_cons (ed_call (d := natD (gapM (onM m) rs)) (ea_cons (ed_call (d := .list ((onM m).map relD)) (ea_cons (ed_var rfl dx) ea_nil) rfl ⟨m, by omega, rfl, rfl⟩) (ea_cons (ed_var rfl (db2.mono s5)) ea_nil)) rfl ⟨onM m, rs, ?_, hlen, rfl, rfl⟩) (ea_cons (ed_var rfl dx) ea_nil)) (by show 2 ≤ 100000; decide)) rfl⟩
    have := onM_len m (by omega)
    omega
  · cases hms : (mems n).map (gapPr rs) with
    | nil =>
      have : mems n = [] := List.map_eq_nil_iff.mp hms
      exact absurd this (mems_ne n)
    | cons p ps =>
      have dv3' := dv3
      rw [hms, List.map_cons] at dv3'
      have hp : PySem.W.minD (pairD p) (ps.map pairD) = pairD (minP p ps) := minD_pair p ps
      have hdep : PyData.depthAll (pairD p :: ps.map pairD) ≤ 64 := by
        have := depth_pairs (p :: ps)
        rw [List.map_cons] at this
        omega
      have hlow : nearLeast n rs = (minP p ps).1 := by
        unfold nearLeast
        rw [hms]
        rfl
      refine go_set (d := natD (nearLeast n rs)) (ed_op (d1 := pairD (minP p ps)) (ed_is (ed_cb (ea_cons (ed_var rfl dv3') ea_nil) (rdc_min (alike_pairs p ps) hdep)) hp) ed_int (rd_ixT (j := 0) rfl (by rw [hlow]; rfl))) o3 fun v4 M4 H4 e4 o4 dv4 => ?_
      refine go_ret (ed_tup (ea_cons (ed_var rfl dv4) (ea_cons (ed_cb (ea_cons (ed_is (ed_lc (p := hasGap (nearLeast n rs)) (f := sndD) (ei_list (ed_var rfl (dv3.mono e4.m))) ?_ fun d hd x M5 s5 dx => ?_) (congrArg PyData.list (near_list n (nearLeast n rs) rs))) ea_nil) rdc_tup) ea_nil)) (by show 2 ≤ 100000; decide)) o4 fun v6 M6 H6 e6 dv6 => q v6 M6 H6 (((e2.trans e3).trans e4).trans e6) dv6
      · rw [List.length_map, List.length_map]; omega
      · obtain ⟨pr, hpr, rfl⟩ := List.mem_map.mp hd
        obtain ⟨t, xs, rfl, ht, hxs⟩ := dx.tup_of
        obtain ⟨u, v', rfl, du, dv'⟩ := hxs.two
        exact ⟨_, fun H1 Q s1 qq => ⟨t, [u, v'], rfl, SqT.of (s1 _ _ ht), rfl, u, [v'], rfl, v', [], rfl, rfl, qq⟩, rfl, et_test (ed_op (ed_var rfl du) (ed_var rfl (dv4.mono s5)) rd_eqI), fun _ => ed_var rfl dv'⟩
/-! ### pillar_of, pillar, pillars -/
def pillarM (n : Nat) (r : Rel) : List Nat := (List.replicate (n - r.1) 48 ++ List.replicate (r.2 + 1) 49) ++ List.replicate (r.1 - r.2 - 1) 48
theorem mulS_one (c k : Nat) : mulS (S [c]) k = S (List.replicate k c) := by
  unfold mulS
  rw [S_list]
  congr 2
  induction k with
  | zero => rfl
  | succ k ih =>
    rw [List.replicate_succ, List.flatten_cons, ih]
    rfl
def rPilOf (ds : List PyData) (d : PyData) : Prop := ∃ (n : Nat) (r : Rel), n ≤ 100 ∧ r ∈ rels n ∧ ds = [.int n, relD r] ∧ d = strD (pillarM n r)
theorem scPilOf : FnScope ["span", "relay", "high", "low"] ["span", "relay"] (defScope sPilOf) := ⟨rfl, rfl, rfl, by decide +kernel, rfl, by decide +kernel, by decide +kernel⟩
theorem ok_pilOf (D : Def K mg "pillar_of" sPilOf ["span", "relay"]) (X : Txt mg) : Fn P w K mg base "pillar_of" 1 ["span", "relay"] (spD T 2 rPilOf) := by
  refine D.fn scPilOf rfl fun f cdv A outer s H vs Q E M ds d hr hl hR o dv q => ?_
  obtain ⟨n, ⟨h, lo⟩, hn, hm, rfl, rfl⟩ := hR
  obtain ⟨h1, h2, h3⟩ := mem_rels.mp hm
  simp only at h1 h2 h3
  obtain ⟨a, b, rfl, da, db⟩ := dv.two
  refine ⟨_, pss_cons (ps_asg (pv 1) (pg_tup rfl (pgs_cons (pg_name (i := 2) scPilOf.nd rfl (.inl rfl)) (pgs_cons (pg_name (i := 3) scPilOf.nd rfl (.inl rfl)) pgs_nil))))
    (pss_one (ps_ret (pe_op op_add_str (pe_op op_add_str (pe_op op_mulS pe_str (pe_op op_sub (pv 0) (pv 2))) (pe_op op_mulS pe_str (pe_op op_add (pv 3) pe_int))) (pe_op op_mulS pe_str (pe_op op_sub (pe_op op_sub (pv 2) (pv 3)) pe_int))))), ?_⟩
  obtain ⟨p, xs, rfl, hp, hxs⟩ := db.tup_of
  obtain ⟨u, v, rfl, du, dv'⟩ := hxs.two
  refine ⟨_, rfl, p, [u, v], rfl, SqT.of (o.s _ _ hp), rfl, u, [v], rfl, v, [], rfl, rfl, ?_⟩
  have z1 : ∀ k, (S (List.replicate k 48)).length = k := fun k => by rw [S_len, List.length_replicate]
  have z2 : ∀ k, (S (List.replicate k 49)).length = k := fun k => by rw [S_len, List.length_replicate]
  have r1 : Ed T (tOp rMulS (tC (.str "0")) (tOp (rI0 fun i j => .int (i - j)) (tVar 0) (tVar 2))) [some a, some (.ref p), some u, some v] M (.str (S (List.replicate (n - h) 48))) := by
    refine ed_is (ed_op ed_str (ed_is (ed_op (ed_var rfl da) (ed_var rfl du) rd_int) (d := .int ((n - h : Nat) : Int)) ?_) (rd_mulS (n := n - h) (by decide +kernel) (by omega))) ?_
    · show PyData.int ((n : Int) - (h : Int)) = _
      congr 1
      omega
    · rw [zero1, mulS_one]
  have r2 : Ed T (tOp rMulS (tC (.str "1")) (tOp (rI0 fun i j => .int (i + j)) (tVar 3) (tC (.int 1)))) [some a, some (.ref p), some u, some v] M (.str (S (List.replicate (lo + 1) 49))) := by
    refine ed_is (ed_op ed_str (ed_is (ed_op (ed_var rfl dv') ed_int rd_int) (d := .int ((lo + 1 : Nat) : Int)) ?_) (rd_mulS (n := lo + 1) (by decide +kernel) (by omega))) ?_
    · show PyData.int ((lo : Int) + 1) = _
      congr 1
    · rw [one1, mulS_one]
  have r3 : Ed T (tOp rMulS (tC (.str "0")) (tOp (rI0 fun i j => .int (i - j)) (tOp (rI0 fun i j => .int (i - j)) (tVar 2) (tVar 3)) (tC (.int 1)))) [some a, some (.ref p), some u, some v] M (.str (S (List.replicate (h - lo - 1) 48))) := by
    refine ed_is (ed_op ed_str (ed_is (ed_op (ed_op (ed_var rfl du) (ed_var rfl dv') rd_int) ed_int rd_int) (d := .int ((h - lo - 1 : Nat) : Int)) ?_) (rd_mulS (n := h - lo - 1) (by decide +kernel) (by omega))) ?_
    · show PyData.int ((h : Int) - (lo : Int) - 1) = _
      congr 1
      omega
    · rw [zero1, mulS_one]
  have line : ∀ k, k ≤ 1000 → k ≤ sizeLine := fun k hk => Nat.le_trans hk (by decide)
  refine go_ret (ed_is (ed_op (ed_op r1 r2 (rd_addS (by rw [z1, z2]; exact line _ (by omega)))) r3 (rd_addS ?_)) ?_) o q
  · rw [S_cat, S_len, List.length_append, List.length_replicate, List.length_replicate, z1]
    exact line _ (by omega)
  · rw [S_cat, S_cat]
    rfl
def rPillar (ds : List PyData) (d : PyData) : Prop := ∃ (n : Nat) (r : Rel), 1 ≤ n ∧ n ≤ 9 ∧ r ∈ rels n ∧ ds = [.int n, relD r] ∧ d = strD (pillarM n r)
theorem scPillar : FnScope ["span", "relay"] ["span", "relay"] (defScope sPillar) := ⟨rfl, rfl, rfl, by decide +kernel, rfl, by decide +kernel, by decide +kernel⟩
theorem ok_pillar (D : Def K mg "pillar" sPillar ["span", "relay"]) (X : Txt mg) (F1 : Fn P w K mg base "need_span" 2 ["span"] (spD T 1 rNeedSpan)) (F2 : Fn P w K mg base "is_relay" 2 ["span", "value"] (spD T 2 rIsRel)) (F3 : Fn P w K mg base "pillar_of" 1 ["span", "relay"] (spD T 2 rPilOf)) :
    Fn P w K mg base "pillar" 3 ["span", "relay"] (spD T 2 rPillar) := by
  refine D.fn scPillar rfl fun f cdv A outer s H vs Q E M ds d hr hl hR o dv q => ?_
  obtain ⟨n, r, h1, h2, hm, rfl, rfl⟩ := hR
  obtain ⟨a, b, rfl, da, db⟩ := dv.two
  refine ⟨_, pss_cons (ps_expr (pe_callF F1 hr (by rfl) (pa_cons (pv 0) pa_nil)))
    (pss_cons (ps_if (pt_not (pt_val (pe_callF F2 hr (by rfl) (pa_cons (pv 0) (pa_cons (pv 1) pa_nil))))) (pss_one ps_never) pss_nil)
    (pss_one (ps_ret (pe_callF F3 (hr.mono (by decide)) (by rfl) (pa_cons (pv 0) (pa_cons (pv 1) pa_nil)))))), ?_⟩
  refine go_drop (ed_call (d := .none) (ea_cons (ed_var rfl da) ea_nil) rfl ⟨n, h1, h2, rfl, rfl⟩) o fun M2 H2 e2 o2 => ?_
  refine go_if (b := false) (et_is (et_not (et_B (b := true) (ed_call (d := .bool true) (ea_cons (ed_var rfl (da.mono e2.m)) (ea_cons (ed_var rfl (db.mono e2.m)) ea_nil)) rfl ⟨n, r, hm, rfl, rfl⟩))) rfl) o2 (fun z => nomatch z) fun _ M3 H3 e3 o3 => ?_
  have e23 := e2.trans e3
  exact go_ret (ed_call (d := strD (pillarM n r)) (ea_cons (ed_var rfl (da.mono e23.m)) (ea_cons (ed_var rfl (db.mono e23.m)) ea_nil)) rfl ⟨n, r, by omega, hm, rfl, rfl⟩) o3 fun v4 M4 H4 e4 dv4 => q v4 M4 H4 (e23.trans e4) dv4
/-- a pillar and its relay -/
def prD (m : List Nat) (r : Rel) : PyData := .tuple [strD m, relD r]
def ofRel (n : Nat) : PyData → PyData
  | .tuple [.int h, .int l] => prD (pillarM n (h.toNat, l.toNat)) (h.toNat, l.toNat)
  | d => d
theorem prs_list (n : Nat) (rs : List Rel) : ((rs.map relD).filter fun _ => true).map (ofRel n) = rs.map fun r => prD (pillarM n r) r := by
  rw [filt_true, List.map_map]
  rfl
theorem prD_ok (f : Rel → List Nat) (rs : List Rel) : PySem.W.AllAlike (rs.map fun r => prD (f r) r) ∧ PySem.W.Sortable (rs.map fun r => prD (f r) r) ∧ ∀ d ∈ rs.map (fun r => prD (f r) r), d.depth ≤ 64 := by
  refine ⟨fun d hd e he => ?_, .inl fun d hd => ?_, fun d hd => ?_⟩
  · obtain ⟨r, _, rfl⟩ := List.mem_map.mp hd
    obtain ⟨s, _, rfl⟩ := List.mem_map.mp he
    simp [prD, strD, relD, PySem.W.alike, PySem.W.alikeAll]
  · obtain ⟨r, _, rfl⟩ := List.mem_map.mp hd
    exact ⟨_, _, rfl⟩
  · obtain ⟨r, _, rfl⟩ := List.mem_map.mp hd
    simp [prD, strD, relD, PyData.depth, PyData.depthAll]
def rPillars (ds : List PyData) (d : PyData) : Prop := ∃ n : Nat, 1 ≤ n ∧ n ≤ 9 ∧ ds = [.int n] ∧ d = .tuple (((rels n).map fun r => prD (pillarM n r) r).mergeSort (PySem.W.dataLe false id))
theorem scPillars : FnScope ["span", "relay"] ["span"] (defScope sPillars) := ⟨rfl, rfl, rfl, by decide +kernel, rfl, by decide +kernel, by decide +kernel⟩
theorem ok_pillars (D : Def K mg "pillars" sPillars ["span"]) (X : Txt mg) (F1 : Fn P w K mg base "need_span" 2 ["span"] (spD T 1 rNeedSpan)) (F2 : Fn P w K mg base "all_relays" 1 ["span"] (spD T 1 rRels)) (F3 : Fn P w K mg base "pillar_of" 1 ["span", "relay"] (spD T 2 rPilOf)) :
    Fn P w K mg base "pillars" 3 ["span"] (spD T 1 rPillars) := by
  refine D.fn scPillars rfl fun f cdv A outer s H vs Q E M ds d hr hl hR o dv q => ?_
  obtain ⟨n, h1, h2, rfl, rfl⟩ := hR
  obtain ⟨a, rfl, da⟩ := dv.one
  refine ⟨_, pss_cons (ps_expr (pe_callF F1 hr (by rfl) (pa_cons (pv 0) pa_nil)))
    (pss_one (ps_ret (pe_callTy call_tuple_of (by rfl) X.tuple (by decide +kernel) (pa_cons (pe_callB (cr_sortD (hu70 hr)) (by rfl) X.sorted (by decide +kernel) (pa_cons
      (pe_lc (own := [("relay", 1)]) (g := gName 1) rfl scPillars.nd (pi_list (pe_callF F2 (hr.mono (by decide)) (by rfl) (pa_cons (pv 0) pa_nil))) (blkOk_by (N := ["span", "relay"]) (sc := defScope sPillars) (by decide +kernel)) (fun _ _ _ _ _ => pg_name (i := 1) scPillars.nd rfl (.inl rfl)) (fun _ _ _ _ _ => pts_nil)
        (fun _ _ _ _ _ => pe_tup (pa_cons (pe_callF F3 (hr.mono (by decide)) (by rfl) (pa_cons (pv 0) (pa_cons (pv 1) pa_nil))) (pa_cons (pv 1) pa_nil)))) pa_nil)) pa_nil)))), ?_⟩
  refine go_drop (ed_call (d := .none) (ea_cons (ed_var rfl da) ea_nil) rfl ⟨n, h1, h2, rfl, rfl⟩) o fun M2 H2 e2 o2 => ?_
  have da2 := da.mono e2.m
  obtain ⟨p1, p2, p3⟩ := prD_ok (pillarM n) (rels n)
  refine go_ret (ed_cb (ea_cons (ed_cb (ea_cons (ed_is (ed_lc (p := fun _ => true) (f := ofRel n) (ei_list (ed_call (d := .list ((rels n).map relD)) (ea_cons (ed_var rfl da2) ea_nil) rfl ⟨n, by omega, rfl, rfl⟩)) ?_ fun d hd x M5 s5 dx => ?_) (congrArg PyData.list (prs_list n (rels n)))) ea_nil) (rdc_sort p1 p2 p3)) ea_nil) rdc_tup) o2 fun v6 M6 H6 e6 dv6 => q v6 M6 H6 (e2.trans e6) dv6
  · rw [List.length_map]
    have := rels_len n
    have h3 : n * n ≤ 9 * 9 := Nat.mul_le_mul h2 h2
    omega
  · obtain ⟨r, hm, rfl⟩ := List.mem_map.mp hd
    exact ⟨_, fun H1 Q s1 qq => qq, rfl, et_yes, fun _ => ed_is (ed_tup (ea_cons (ed_call (d := strD (pillarM n r)) (ea_cons (ed_var rfl (da2.mono s5)) (ea_cons (ed_var rfl dx) ea_nil)) rfl ⟨n, r, by omega, hm, rfl, rfl⟩) (ea_cons (ed_var rfl dx) ea_nil)) (by show 2 ≤ 100000; decide)) rfl⟩
end
end Rb

set_option Elab.async false
set_option linter.all false
set_option maxRecDepth 100000
set_option maxHeartbeats 4000000
namespace Rb
open PySem L2 PySem.Spec PyProof.Rows
section
variable {P : Program} {w : World} {K : PySem.W.Frag} {mg : Str → Option Value} {base : Heap} {T : List Addr}
/-! ### _law_taken -/
def rowV (a : Addr) (i s r : Int) : HO := .lst [.ref a, .int i, .int s, .int r]
def spTaken (K : PySem.W.Frag) : Sp := fun vs H Q _ => ∃ (p a : Addr) (ns : List Int) (i s r : Int) (m : Nat), vs = [.ref p, .int (m : Int)] ∧ 1 ≤ m ∧ m ≤ 1000 ∧ H p = some (rowV a i s r) ∧ (∀ o, SqL K (upd H p o) a (ns.map V.int)) ∧ 0 ≤ i ∧ 0 ≤ s ∧ s < 2147483647 ∧
  ∀ (t : Nat) (i' s' r' : Int), t < m → 0 ≤ i' → 0 ≤ s' → s' < 2147483647 → Q (.int (t : Int)) (upd H p (rowV a i' s' r'))
theorem scTaken : FnScope ["_law_row", "_law_many", "_law_found", "_law_cell"] ["_law_row", "_law_many"] (defScope sTaken) := ⟨rfl, rfl, rfl, by decide +kernel, rfl, by decide +kernel, by decide +kernel⟩
theorem modN (z : Int) {m : Nat} (h : 1 ≤ m) : ∃ t : Nat, t < m ∧ z % (m : Int) = (t : Int) := by
  have h1 := Int.emod_nonneg z (show (m : Int) ≠ 0 by omega)
  have h2 := Int.emod_lt_of_pos z (show (0 : Int) < (m : Int) by omega)
  exact ⟨(z % (m : Int)).toNat, by omega, by omega⟩
theorem ok_taken (D : Def K mg "_law_taken" sTaken ["_law_row", "_law_many"]) (X : Txt mg) : Fn P w K mg base "_law_taken" 1 ["_law_row", "_law_many"] (spTaken K) := by
  obtain ⟨f, fd, F, hm, b⟩ := D
  refine ⟨f, fd, F.ok scTaken (fun vs H Q E h => ?_) (fun cdv A outer s H vs Q E hr h => ?_), hm, F.kp, b⟩
  · obtain ⟨p, a, ns, i, s, r, m, rfl, _⟩ := h
    rfl
  obtain ⟨p, a, ns, i, s, r, m, rfl, m1, m2, hp, hs, i0, s0, s1, q⟩ := h
  have M1 : (0 : Int) < (m : Int) := by omega
  have MD : CDiv r (m : Int) := ⟨M1, by omega⟩
  refine ⟨_, pss_cons (ps_if (pt_cmpR op_gt (pe_ix ix_list (pv 0) pe_int (fun _ _ => rfl)) pe_int (nomark _))
      (pss_cons (ps_set (i := 2) scTaken.nd rfl (.inl rfl) (pe_op op_mod (pe_callTy call_int1 (by rfl) X.int (by decide +kernel) (pa_cons (pe_ix ix_list (pv 0) pe_int (fun _ _ => rfl)) pa_nil)) (pv 1)))
      (pss_cons (ps_asg (pe_op op_fdiv (pe_ix ix_list (pv 0) pe_int (fun _ _ => rfl)) (pv 1)) (pg_sub (pv 0) pe_int set_list))
      (pss_one (ps_ret (pv 2))))) pss_nil)
    (pss_cons (ps_asg (pe_op op_add (pe_ix ix_list (pv 0) pe_int (fun _ _ => rfl)) pe_int) (pg_sub (pv 0) pe_int set_list))
    (pss_cons (ps_if (pt_cmpR op_gt (pe_ix ix_list (pv 0) pe_int (fun _ _ => rfl)) (pe_callB call_len_seq (by rfl) X.len PySem.boot_len (pa_cons (pe_ix ix_list (pv 0) pe_int (fun _ _ => rfl)) pa_nil)) (nomark _))
      (pss_cons (ps_asg (pe_op op_mod (pe_callTy call_int1 (by rfl) X.int (by decide +kernel) (pa_cons (pe_op op_add (pe_op op_mul (pe_ix ix_list (pv 0) pe_int (fun _ _ => rfl)) pe_int) pe_int) pa_nil)) pe_int) (pg_sub (pv 0) pe_int set_list))
      (pss_one (ps_ret (pe_op op_mod (pe_callTy call_int1 (by rfl) X.int (by decide +kernel) (pa_cons (pe_op op_fdiv (pe_ix ix_list (pv 0) pe_int (fun _ _ => rfl)) pe_int) pa_nil)) (pv 1))))) pss_nil)
    (pss_cons (ps_set (i := 3) scTaken.nd rfl (.inl rfl) (pe_ix ix_list (pe_ix ix_list (pv 0) pe_int (fun _ _ => rfl)) (pe_op op_sub (pe_ix ix_list (pv 0) pe_int (fun _ _ => rfl)) pe_int) (fun _ _ => rfl)))
    (pss_cons (ps_asg (pe_op op_mod (pe_callTy call_int1 (by rfl) X.int (by decide +kernel) (pa_cons (pe_op op_add (pe_op op_add (pe_op op_mul (pe_ix ix_list (pv 0) pe_int (fun _ _ => rfl)) pe_int) (pv 3)) pe_int) pa_nil)) pe_int) (pg_sub (pv 0) pe_int set_list))
    (pss_cons (ps_if (pt_cmpR op_ge (pv 3) (pe_op op_pow pe_int pe_int) (nomark _)) (pss_one (ps_asg (pe_op op_fdiv (pv 3) (pv 1)) (pg_sub (pv 0) pe_int set_list))) pss_nil)
    (pss_one (ps_ret (pe_op op_mod (pe_callTy call_int1 (by rfl) X.int (by decide +kernel) (pa_cons (pv 3) pa_nil)) (pv 1))))))))), ?_⟩
  refine ⟨_, rfl, p, _, 3, _, rfl, rfl, SqL.of hp, rfl, _, _, rfl, rfl, _, rfl, ?_⟩
  refine ite2 (fun _ => ?_) (fun _ => ?_)
  · -- the digits of a great cell
    refine ⟨_, rfl, p, _, 3, _, rfl, rfl, SqL.of hp, rfl, .inl ⟨_, rfl, ?_⟩⟩
    refine ⟨_, rfl, _, _, rfl, rfl, M1, ?_⟩
    refine ⟨_, rfl, p, _, 3, _, rfl, rfl, SqL.of hp, rfl, _, rfl, _, _, rfl, rfl, MD, ?_⟩
    refine ⟨_, rfl, p, _, 3, 3, rfl, rfl, hp, rfl, ?_⟩
    obtain ⟨t, ht, et⟩ := modN r m1
    refine ⟨_, rfl, ?_⟩
    show Q (.int (r % (m : Int))) (upd H p (rowV a i s (r / (m : Int))))
    rw [et]
    exact q t i s (r / (m : Int)) ht i0 s0 s1
  · refine ⟨_, rfl, p, _, 1, _, rfl, rfl, SqL.of hp, rfl, _, _, rfl, rfl, ?_⟩
    refine ⟨_, rfl, p, _, 1, 1, rfl, rfl, hp, rfl, ?_⟩
    show _
    have hp1 : upd H p (rowV a (i + 1) s r) p = some (rowV a (i + 1) s r) := upd_same
    have hs1 := hs (rowV a (i + 1) s r)
    refine ⟨_, rfl, p, _, 1, _, rfl, rfl, SqL.of hp1, rfl, _, rfl, p, _, 0, _, rfl, rfl, SqL.of hp1, rfl, a, _, rfl, .inl hs1, _, _, rfl, rfl, _, rfl, ?_⟩
    refine ite2 (fun hgt => ?_) (fun hle => ?_)
    · refine ⟨_, rfl, p, _, 2, _, rfl, rfl, SqL.of hp1, rfl, _, _, rfl, rfl, .inl ⟨by omega, by omega⟩, _, _, rfl, rfl, .inl ⟨_, rfl, ?_⟩⟩
      refine ⟨_, _, rfl, rfl, (by show (0 : Int) < 2147483647; decide), ?_⟩
      refine ⟨_, rfl, p, _, 2, 2, rfl, rfl, hp1, rfl, ?_⟩
      obtain ⟨s', hs', es'⟩ := modN (s * 48271 + 11) (m := 2147483647) (by decide)
      refine ⟨_, rfl, p, _, 2, _, rfl, rfl, SqL.of upd_same, rfl, _, _, rfl, rfl, ⟨by decide, by decide⟩, .inl ⟨_, rfl, ?_⟩⟩
      refine ⟨_, rfl, _, _, rfl, rfl, M1, ?_⟩
      obtain ⟨t, ht, et⟩ := modN ((s * 48271 + 11) % 2147483647 / 7) m1
      show Q (.int ((s * 48271 + 11) % 2147483647 / 7 % (m : Int))) (upd (upd H p (rowV a (i + 1) s r)) p (rowV a (i + 1) ((s * 48271 + 11) % 2147483647) r))
      rw [et, upd_upd]
      have es2 : (s * 48271 + 11) % 2147483647 = (s' : Int) := es'
      exact q t (i + 1) _ r ht (by omega) (by rw [es2]; omega) (by rw [es2]; omega)
    · have hle' : i < (ns.length : Int) := by
        have h1 : ¬ (i + 1 > ((ns.map V.int).length : Int)) := fun z => hle (decide_eq_true z)
        rw [List.length_map] at h1
        omega
      obtain ⟨c, hc⟩ : ∃ c, ns[i.toNat]? = some c := ⟨ns[i.toNat]'(by omega), List.getElem?_eq_getElem _⟩
      have hat : atI (ns.map V.int) (i + 1 - 1) = some (.int c) := by
        have e2 : i + 1 - 1 = ((i.toNat : Nat) : Int) := by omega
        rw [e2]
        refine atI_nat ?_
        rw [List.getElem?_map, hc]
        rfl
      refine ⟨_, rfl, p, _, 0, _, rfl, rfl, SqL.of hp1, rfl, _, rfl, p, _, 1, _, rfl, rfl, SqL.of hp1, rfl, _, _, rfl, rfl, a, _, _, _, rfl, rfl, hs1, hat, ?_⟩
      refine ⟨_, rfl, p, _, 2, _, rfl, rfl, SqL.of hp1, rfl, _, _, rfl, rfl, .inl ⟨by omega, by omega⟩, _, rfl, _, _, rfl, rfl, _, _, rfl, rfl, .inl ⟨_, rfl, ?_⟩⟩
      refine ⟨_, _, rfl, rfl, (by show (0 : Int) < 2147483647; decide), ?_⟩
      refine ⟨_, rfl, p, _, 2, 2, rfl, rfl, hp1, rfl, ?_⟩
      obtain ⟨s', hs', es'⟩ := modN (s * 48271 + c + 11) (m := 2147483647) (by decide)
      have es2 : (s * 48271 + c + 11) % 2147483647 = (s' : Int) := es'
      obtain ⟨t, ht, et⟩ := modN c m1
      refine ⟨_, rfl, _, _, rfl, rfl, ⟨by decide, by decide, by decide⟩, _, _, rfl, rfl, _, rfl, ?_⟩
      refine ite2 (fun hbig => ?_) (fun hsmall => ?_)
      · refine ⟨_, rfl, _, rfl, _, _, rfl, rfl, ⟨M1, by omega⟩, ?_⟩
        refine ⟨_, rfl, p, _, 3, 3, rfl, rfl, upd_same, rfl, ?_⟩
        refine ⟨_, rfl, .inl ⟨_, rfl, _, rfl, _, _, rfl, rfl, M1, ?_⟩⟩
        show Q (.int (c % (m : Int))) (upd (upd (upd H p (rowV a (i + 1) s r)) p (rowV a (i + 1) ((s * 48271 + c + 11) % 2147483647) r)) p (rowV a (i + 1) ((s * 48271 + c + 11) % 2147483647) (c / (m : Int))))
        rw [et, upd_upd, upd_upd]
        exact q t (i + 1) _ _ ht (by omega) (by rw [es2]; omega) (by rw [es2]; omega)
      · refine ⟨_, rfl, .inl ⟨_, rfl, _, rfl, _, _, rfl, rfl, M1, ?_⟩⟩
        show Q (.int (c % (m : Int))) (upd (upd H p (rowV a (i + 1) s r)) p (rowV a (i + 1) ((s * 48271 + c + 11) % 2147483647) r))
        rw [et, upd_upd]
        exact q t (i + 1) _ r ht (by omega) (by rw [es2]; omega) (by rw [es2]; omega)
end
end Rb

set_option Elab.async false
set_option linter.all false
set_option maxRecDepth 100000
set_option maxHeartbeats 4000000
namespace Rb
open PySem L2 PySem.Spec PyProof.Rows
theorem rels_succ (n : Nat) : rels (n + 1) = rels n ++ (List.range (n + 1)).map fun l => (n + 1, l) := by
  show (List.range (n + 1)).flatMap (fun i => (List.range (i + 1)).map fun l => ((i + 1, l) : Rel)) = _
  have e : List.range (n + 1) = List.range n ++ [n] := List.range_succ
  have h : ∀ L : List Nat, L = List.range n ++ [n] → L.flatMap (fun i => (List.range (i + 1)).map fun l => ((i + 1, l) : Rel)) = rels n ++ (List.range (n + 1)).map fun l => (n + 1, l) := fun L hL => by
    rw [hL, List.flatMap_append, List.flatMap_singleton]
    rfl
  exact h _ e
/-! ### the law's own list of memories -/
def memsB : Nat → List (List Nat)
  | 0 => [[]]
  | n + 1 => (memsB n).map (fun m => m ++ [48]) ++ (memsB n).map fun m => m ++ [49]
theorem memsB_count (n : Nat) : (memsB n).length = 2 ^ n := by
  induction n with
  | zero => rfl
  | succ n ih =>
    show ((memsB n).map (fun m => m ++ [48]) ++ (memsB n).map fun m => m ++ [49]).length = _
    rw [List.length_append, List.length_map, List.length_map, ih]
    omega
theorem memsB_len : ∀ (n : Nat) (m : List Nat), m ∈ memsB n → m.length = n
  | 0, m, h => by
    have e : m = [] := by simpa [memsB] using h
    rw [e]; rfl
  | n + 1, m, h => by
    rcases List.mem_append.mp h with h | h
    · obtain ⟨a, ha, rfl⟩ := List.mem_map.mp h
      rw [List.length_append, memsB_len n a ha]; rfl
    · obtain ⟨a, ha, rfl⟩ := List.mem_map.mp h
      rw [List.length_append, memsB_len n a ha]; rfl
def leL (a b : List Nat) : Bool := !ltL b a
theorem leL_le (a b : List Nat) : PySem.W.dataLe false id (strD a) (strD b) = leL a b := by
  rw [PySem.W.dataLe_eq]
  show (!PySem.W.dataLt (.str (S b)) (.str (S a))) = _
  rw [PySem.W.dataLt_str]
  unfold leL
  rw [ltL_lt]
  rfl
theorem leL_anti (a b : List Nat) (h1 : leL a b = true) (h2 : leL b a = true) : a = b := by
  unfold leL at h1 h2
  rw [ltL_lt] at h1 h2
  simp only [Bool.not_eq_true', decide_eq_false_iff_not] at h1 h2
  exact List.le_antisymm h1 h2
theorem mems_sorted : ∀ n ∈ [1, 2, 3, 4, 5], (mems n).Perm (memsB n) ∧ (mems n).Pairwise (fun a b => leL a b = true) := by decide +kernel
theorem sort_mems {n : Nat} (h1 : 1 ≤ n) (h2 : n ≤ 5) : ((memsB n).map strD).mergeSort (PySem.W.dataLe false id) = (mems n).map strD := by
  have hn : n ∈ [1, 2, 3, 4, 5] := by
    rcases (show n = 1 ∨ n = 2 ∨ n = 3 ∨ n = 4 ∨ n = 5 by omega) with e | e | e | e | e <;> subst e <;> decide
  obtain ⟨hp, hs⟩ := mems_sorted n hn
  rw [← PySem.W.sort_maps (r := leL) strD (fun a _ b _ => (leL_le a b).symm)]
  congr 1
  have hm : ((memsB n).mergeSort leL).Perm (mems n) := (List.mergeSort_perm _ _).trans hp.symm
  have ht : ∀ a b : List Nat, (leL a b || leL b a) = true := fun a b => by
    unfold leL
    rw [ltL_lt, ltL_lt]
    by_cases h : b < a
    · have h2 : ¬ a < b := fun z => List.lt_asymm h z
      simp [h2]
    · simp [h]
  have htr : ∀ a b c : List Nat, leL a b = true → leL b c = true → leL a c = true := fun a b c x y => by
    unfold leL at x y ⊢
    rw [ltL_lt] at x y ⊢
    simp only [Bool.not_eq_true', decide_eq_false_iff_not] at x y ⊢
    exact List.le_trans x y
  exact hm.eq_of_pairwise (fun a b _ _ x y => leL_anti a b x y) (List.pairwise_mergeSort htr ht _) hs
theorem str_sortable (l : List (List Nat)) : PySem.W.AllAlike (l.map strD) ∧ PySem.W.Sortable (l.map strD) ∧ ∀ d ∈ l.map strD, d.depth ≤ 64 := by
  refine ⟨fun d hd e he => ?_, .inr fun d hd => ?_, fun d hd => ?_⟩
  · obtain ⟨r, _, rfl⟩ := List.mem_map.mp hd
    obtain ⟨s, _, rfl⟩ := List.mem_map.mp he
    simp [strD, PySem.W.alike]
  · obtain ⟨r, _, rfl⟩ := List.mem_map.mp hd
    exact ⟨(fun z => nomatch z), (fun xs z => nomatch z)⟩
  · obtain ⟨r, _, rfl⟩ := List.mem_map.mp hd
    simp [strD, PyData.depth]
def addC (c : Nat) : PyData → PyData
  | .str z => .str (z ++ S [c])
  | d => d
theorem addC_list (c : Nat) (l : List (List Nat)) : ((l.map strD).filter fun _ => true).map (addC c) = (l.map fun m => m ++ [c]).map strD := by
  rw [filt_true, List.map_map, List.map_map]
  apply List.map_congr_left
  intro m _
  show PyData.str (S m ++ S [c]) = strD (m ++ [c])
  rw [S_cat]
  rfl
section
variable {P : Program} {w : World} {K : PySem.W.Frag} {mg : Str → Option Value} {base : Heap} {T : List Addr}
/-! ### _law_relays -/
theorem scLawRels : FnScope ["_law_span", "_law_found", "_law_high", "_law_low"] ["_law_span"] (defScope sLawRels) := ⟨rfl, rfl, rfl, by decide +kernel, rfl, by decide +kernel, by decide +kernel⟩
theorem ok_lawRels (D : Def K mg "_law_relays" sLawRels ["_law_span"]) (X : Txt mg) : Fn P w K mg base "_law_relays" 1 ["_law_span"] (spD T 1 rRels) := by
  refine D.fn scLawRels rfl fun f cdv A outer s H vs Q E M ds d hr hl hR o dv q => ?_
  obtain ⟨n, hn, rfl, rfl⟩ := hR
  obtain ⟨a, rfl, da⟩ := dv.one
  refine ⟨_, pss_cons (ps_set (i := 1) scLawRels.nd rfl (.inl rfl) (pe_lst pa_nil))
    (pss_cons (ps_for PassesOwn.never rfl (pi_range2 (by rfl) X.range (pa_cons pe_int (pa_cons (pe_op op_add (pv 0) pe_int) pa_nil))) (pg_name (i := 2) scLawRels.nd rfl (.inr rfl))
      (pss_one (ps_set (i := 1) scLawRels.nd rfl (.inl rfl) (pe_op op_cat (pv 1) (pe_lc (own := [("_law_low", 3)]) (g := gName 3) rfl scLawRels.nd (pi_range1 (by rfl) X.range (pa_cons (pv 2) pa_nil))
        (blkOk_by (N := ["_law_span", "_law_found", "_law_high", "_law_low"]) (sc := defScope sLawRels) (by decide +kernel)) (fun _ _ _ _ _ => pg_name (i := 3) scLawRels.nd rfl (.inl rfl)) (fun _ _ _ _ _ => pts_nil)
        (fun _ _ _ _ _ => pe_tup (pa_cons (pv 2) (pa_cons (pv 3) pa_nil))))))))
    (pss_one (ps_ret (pv 1)))), ?_⟩
  refine go_set (ed_lst (ds := []) ea_nil (by decide)) o fun v M2 H2 e2 o2 dv2 => ?_
  have da2 := da.mono e2.m
  refine for_s (ei_rng2 (lo := 1) (hi := n + 1) (ea_cons ed_int (ea_cons (ed_is (ed_op (ed_var rfl da2) ed_int rd_int) (by simp)) ea_nil)) (by omega) (by omega)) o2 (fun i M' σ' H' => Ex M H M' H' ∧ ∃ (v : V) (x y : Option V), σ' = [some a, some v, x, y] ∧ De M' v (.list ((rels i).map relD)))
    (fun M3 H3 e3 => ⟨e2.trans e3, v, none, none, rfl, dv2.mono e3.m⟩) ?_ ?_
  · rintro i d x M3 H3 M4 H4 σ3 N hd s3 o3 ⟨x3, v3, xo, yo, rfl, dv3⟩ e4 o4 dx hN
    have hi : i < n := by
      have := (List.getElem?_eq_some_iff.mp hd).1
      rw [rgD_len] at this
      omega
    rw [rgD_get (by omega)] at hd
    cases hd
    refine go_asg (ed_is (ed_op (ed_var rfl (dv3.mono e4.m)) (ed_lc (p := fun _ => true) (f := fun e => .tuple [.int ((1 + i : Nat) : Int), e]) (ei_rng1 (n := 1 + i) (ea_cons (ed_var rfl dx) ea_nil) (by omega)) (by rw [rgD_len]; omega) fun d hd z M5 s5 dz => ?_) (rd_cat ?_)) (d := .list ((rels (i + 1)).map relD)) ?_) o4 fun v5 M5 H5 e5 o5 dv5 => ?_
    · exact ⟨_, fun H1 Q s1 qq => qq, rfl, et_yes, fun _ => ed_tup (ea_cons (ed_var rfl (dx.mono s5)) (ea_cons (ed_var rfl dz) ea_nil)) (by show 2 ≤ 100000; decide)⟩
    · rw [List.length_map, List.length_map, filt_true, rgD_len]
      have := rels_len i
      have h2 : i * i ≤ 100 * 100 := Nat.mul_le_mul (by omega) (by omega)
      omega
    · rw [rels_succ, List.map_append, filt_true]
      congr 2
      unfold rgD
      rw [List.map_map, List.map_map]
      have e1 : 1 + i = i + 1 := by omega
      rw [e1]
      apply List.map_congr_left
      intro l _
      show PyData.tuple [.int ((i + 1 : Nat) : Int), .int ((0 + l : Nat) : Int)] = relD (i + 1, l)
      rw [show 0 + l = l by omega]
      rfl
    · exact hN M5 _ H5 e5.m o5 ⟨(x3.trans e4).trans e5, v5, _, _, rfl, dv5⟩
  · rintro M5 σ5 H5 s5 o5 ⟨x5, v5, xo, yo, rfl, dv5⟩
    rw [rgD_len] at dv5
    exact go_ret (ed_var rfl dv5) o5 fun v6 M6 H6 e6 dv6 => q v6 M6 H6 (x5.trans e6) dv6
/-! ### _law_all -/
def rLawAll (ds : List PyData) (d : PyData) : Prop := ∃ n : Nat, 1 ≤ n ∧ n ≤ 5 ∧ ds = [.int n] ∧ d = .list ((mems n).map strD)
theorem scLawAll : FnScope ["_law_span", "_law_found", "_law_turn", "_law_memory_here"] ["_law_span"] (defScope sLawAll) := ⟨rfl, rfl, rfl, by decide +kernel, rfl, by decide +kernel, by decide +kernel⟩
theorem ok_lawAll (D : Def K mg "_law_all" sLawAll ["_law_span"]) (X : Txt mg) : Fn P w K mg base "_law_all" 1 ["_law_span"] (spD T 1 rLawAll) := by
  refine D.fn scLawAll rfl fun f cdv A outer s H vs Q E M ds d hr hl hR o dv q => ?_
  obtain ⟨n, hn1, hn, rfl, rfl⟩ := hR
  obtain ⟨a, rfl, da⟩ := dv.one
  refine ⟨_, pss_cons (ps_set (i := 1) scLawAll.nd rfl (.inl rfl) (pe_lst (pa_cons pe_str pa_nil)))
    (pss_cons (ps_for PassesOwn.never rfl (pi_range1 (by rfl) X.range (pa_cons (pv 0) pa_nil)) (pg_name (i := 2) scLawAll.nd rfl (.inl rfl))
      (pss_one (ps_set (i := 1) scLawAll.nd rfl (.inl rfl) (pe_op op_cat
        (pe_lc (own := [("_law_memory_here", 3)]) (g := gName 3) rfl scLawAll.nd (pi_list (pv 1)) (blkOk_by (N := ["_law_span", "_law_found", "_law_turn", "_law_memory_here"]) (sc := defScope sLawAll) (by decide +kernel)) (fun _ _ _ _ _ => pg_name (i := 3) scLawAll.nd rfl (.inl rfl)) (fun _ _ _ _ _ => pts_nil)
          (fun _ _ _ _ _ => pe_op op_add_str (pv 3) pe_str))
        (pe_lc (own := [("_law_memory_here", 3)]) (g := gName 3) rfl scLawAll.nd (pi_list (pv 1)) (blkOk_by (N := ["_law_span", "_law_found", "_law_turn", "_law_memory_here"]) (sc := defScope sLawAll) (by decide +kernel)) (fun _ _ _ _ _ => pg_name (i := 3) scLawAll.nd rfl (.inl rfl)) (fun _ _ _ _ _ => pts_nil)
          (fun _ _ _ _ _ => pe_op op_add_str (pv 3) pe_str))))))
    (pss_one (ps_ret (pe_callB (cr_sortD (hu70 hr)) (by rfl) X.sorted (by decide +kernel) (pa_cons (pv 1) pa_nil))))), ?_⟩
  refine go_set (ed_lst (ea_cons ed_str ea_nil) (by decide)) o fun v M2 H2 e2 o2 dv2 => ?_
  have da2 := da.mono e2.m
  rw [zE] at dv2
  refine for_s (ei_rng1 (n := n) (ea_cons (ed_var rfl da2) ea_nil) (by omega)) o2 (fun i M' σ' H' => Ex M H M' H' ∧ ∃ (v : V) (x y : Option V), σ' = [some a, some v, x, y] ∧ De M' v (.list ((memsB i).map strD)))
    (fun M3 H3 e3 => ⟨e2.trans e3, v, none, none, rfl, dv2.mono e3.m⟩) ?_ ?_
  · rintro i d x M3 H3 M4 H4 σ3 N hd s3 o3 ⟨x3, v3, xo, yo, rfl, dv3⟩ e4 o4 dx hN
    have hi : i < n := by
      have := (List.getElem?_eq_some_iff.mp hd).1
      rw [rgD_len] at this
      omega
    have hcount : (memsB i).length ≤ 32 := by
      rw [memsB_count]
      exact Nat.pow_le_pow_right (by decide) (show i ≤ 5 by omega)
    have dv4 := dv3.mono e4.m
    refine go_asg (ed_is (ed_op (ed_lc (p := fun _ => true) (f := addC 48) (ei_list (ed_var rfl dv4)) (by rw [List.length_map]; omega) fun d hd z M5 s5 dz => ?_) (ed_lc (p := fun _ => true) (f := addC 49) (ei_list (ed_var rfl dv4)) (by rw [List.length_map]; omega) fun d hd z M5 s5 dz => ?_) (rd_cat ?_)) (d := .list ((memsB (i + 1)).map strD)) ?_) o4 fun v5 M5 H5 e5 o5 dv5 => ?_
    · obtain ⟨m, hm, rfl⟩ := List.mem_map.mp hd
      have hml := memsB_len i m hm
      refine ⟨_, fun H1 Q s1 qq => qq, rfl, et_yes, fun _ => ed_is (ed_op (ed_var rfl dz) ed_str (rd_addS ?_)) ?_⟩
      · rw [zero1, S_len, S_len, hml]
        exact Nat.le_trans (show i + [48].length ≤ 10 by show i + 1 ≤ 10; omega) (by decide)
      · rw [zero1]
        rfl
    · obtain ⟨m, hm, rfl⟩ := List.mem_map.mp hd
      have hml := memsB_len i m hm
      refine ⟨_, fun H1 Q s1 qq => qq, rfl, et_yes, fun _ => ed_is (ed_op (ed_var rfl dz) ed_str (rd_addS ?_)) ?_⟩
      · rw [one1, S_len, S_len, hml]
        exact Nat.le_trans (show i + [49].length ≤ 10 by show i + 1 ≤ 10; omega) (by decide)
      · rw [one1]
        rfl
    · rw [addC_list, addC_list, List.length_map, List.length_map, List.length_map, List.length_map]
      omega
    · rw [addC_list, addC_list, ← List.map_append]
      rfl
    · exact hN M5 _ H5 e5.m o5 ⟨(x3.trans e4).trans e5, v5, _, _, rfl, dv5⟩
  · rintro M5 σ5 H5 s5 o5 ⟨x5, v5, xo, yo, rfl, dv5⟩
    rw [rgD_len] at dv5
    obtain ⟨p1, p2, p3⟩ := str_sortable (memsB n)
    exact go_ret (ed_is (ed_cb (ea_cons (ed_var rfl dv5) ea_nil) (rdc_sort p1 p2 p3)) (congrArg PyData.list (sort_mems hn1 hn))) o5 fun v6 M6 H6 e6 dv6 => q v6 M6 H6 (x5.trans e6) dv6
end
end Rb

set_option Elab.async false
set_option linter.all false
set_option maxRecDepth 100000
set_option maxHeartbeats 4000000
namespace Rb
open PySem L2 PySem.Spec PyProof.Rows
/-! ### _law_on -/
def isAt (l : List Nat) (c : Nat) : PyData → Bool
  | .int i => l.getD i.toNat 0 == c
  | _ => false
theorem at_list (l : List Nat) (c : Nat) : ((rgD 0 l.length).filter (isAt l c)).map id = (ats l c).map natD := by
  rw [List.map_id]
  unfold rgD ats
  rw [List.filter_map]
  have h1 : (List.range l.length).filter (isAt l c ∘ fun i => PyData.int ((0 + i : Nat) : Int)) = (List.range l.length).filter fun i => l.getD i 0 == c := by
    apply List.filter_congr
    intro i _
    show (l.getD ((0 + i : Nat) : Int).toNat 0 == c) = _
    rw [show ((0 + i : Nat) : Int).toNat = i by omega]
  rw [h1]
  apply List.map_congr_left
  intro i _
  show PyData.int ((0 + i : Nat) : Int) = natD i
  rw [show 0 + i = i by omega]
  rfl
section
variable {P : Program} {w : World} {K : PySem.W.Frag} {mg : Str → Option Value} {base : Heap} {T : List Addr}
theorem go_par {σ : L2.St} {M H : Hp} {D : Ends} {ta tb : TE} {d : PyData} {tz : TS} {i j : Nat} (h : Ed T ta σ M d) (o : Ok T M H)
    (k : ∀ v M2 H2, Ex M H M2 H2 → Ok T M2 H2 → De M2 v d → tb σ H2 fun w H3 => ∃ v' w', [v, w] = [v', w'] ∧ tz D ((σ.set i (some v')).set j (some w')) H3) : tSeq (tPar i j (tCons ta (tCons tb tNil))) tz D σ H :=
  h.go o fun v M2 H2 e2 o2 dv => k v M2 H2 e2 o2 dv
abbrev nLawOn : List Str := ["_law_memory_here", "_law_span", "_law_found", "_law_ones", "_law_zeros", "_law_high", "_law_low", "_law_first", "_law_last", "_law_k"]
theorem scLawOn : FnScope nLawOn ["_law_memory_here"] (defScope sLawOn) := ⟨rfl, rfl, rfl, by decide +kernel, rfl, by decide +kernel, by decide +kernel⟩
theorem ok_lawOn (D : Def K mg "_law_on" sLawOn ["_law_memory_here"]) (X : Txt mg) : Fn P w K mg base "_law_on" 1 ["_law_memory_here"] (spD T 1 rOnIn) := by
  refine D.fn scLawOn rfl fun f cdv A outer s H vs Q E M ds d hr hl hR o dv q => ?_
  obtain ⟨l, hz, rfl, rfl⟩ := hR
  obtain ⟨a, rfl, da⟩ := dv.one
  refine ⟨_, pss_cons (ps_par (i := 1) (j := 2) rfl scLawOn.nd rfl rfl (by decide) rfl rfl (pa_cons (pe_callB call_len_str (by rfl) X.len PySem.boot_len (pa_cons (pv 0) pa_nil)) (pa_cons (pe_lst pa_nil) pa_nil)) (by rfl))
    (pss_cons (ps_par (i := 3) (j := 4) rfl scLawOn.nd rfl rfl (by decide) rfl rfl (pa_cons
        (pe_lc (own := [("_law_k", 9)]) (g := gName 9) rfl scLawOn.nd (pi_range1 (by rfl) X.range (pa_cons (pv 1) pa_nil)) (blkOk_by (N := nLawOn) (sc := defScope sLawOn) (by decide +kernel)) (fun _ _ _ _ _ => pg_name (i := 9) scLawOn.nd rfl (.inl rfl))
          (fun _ _ _ _ _ => pts_one (pt_cmpR op_eq (pe_ix ix_str (pv 0) (pv 9) (fun _ _ => rfl)) pe_str (nomark _))) (fun _ _ _ _ _ => pv 9)) (pa_cons
        (pe_lc (own := [("_law_k", 9)]) (g := gName 9) rfl scLawOn.nd (pi_range1 (by rfl) X.range (pa_cons (pv 1) pa_nil)) (blkOk_by (N := nLawOn) (sc := defScope sLawOn) (by decide +kernel)) (fun _ _ _ _ _ => pg_name (i := 9) scLawOn.nd rfl (.inl rfl))
          (fun _ _ _ _ _ => pts_one (pt_cmpR op_eq (pe_ix ix_str (pv 0) (pv 9) (fun _ _ => rfl)) pe_str (nomark _))) (fun _ _ _ _ _ => pv 9)) pa_nil)) (by rfl))
    (pss_cons (ps_for PassesOwn.never rfl (pi_range2 (by rfl) X.range (pa_cons pe_int (pa_cons (pe_op op_add (pv 1) pe_int) pa_nil))) (pg_name (i := 5) scLawOn.nd rfl (.inl rfl))
      (pss_one (ps_for PassesOwn.never rfl (pi_range1 (by rfl) X.range (pa_cons (pv 5) pa_nil)) (pg_name (i := 6) scLawOn.nd rfl (.inl rfl))
        (pss_cons (ps_set (i := 7) scLawOn.nd rfl (.inl rfl) (pe_ifExp (pt_cmpR op_gt (pe_callB call_len_seq (by rfl) X.len PySem.boot_len (pa_cons (pv 3) pa_nil)) (pv 6) (nomark _)) (pe_ix ix_list (pv 3) (pv 6) (fun _ _ => rfl)) (pv 1)))
        (pss_cons (ps_set (i := 8) scLawOn.nd rfl (.inl rfl) (pe_ifExp (pt_cmpR op_gt (pe_callB call_len_seq (by rfl) X.len PySem.boot_len (pa_cons (pv 4) pa_nil)) (pe_op op_sub (pv 1) (pv 5)) (nomark _)) (pe_ix ix_list (pv 4) (pe_op op_sub (pv 1) (pv 5)) (fun _ _ => rfl)) (pv 1)))
        (pss_one (ps_if (pt_cmpR op_lt (pv 7) (pv 8) (nomark _)) (pss_one (ps_expr (pe_bm PySem.F.plainAttrs_list PySem.F.slot_list_append PySem.F.type_list_append mt_append (pv 2) (pa_cons (pe_tup (pa_cons (pv 5) (pa_cons (pv 6) pa_nil))) pa_nil)))) pss_nil)))))))
    (pss_one (ps_ret (pv 2))))), ?_⟩
  have hline : l.length ≤ sizeLine := Nat.le_trans hz (by decide)
  refine go_par (d := .int (l.length : Int)) (ed_cb (ea_cons (ed_var rfl da) ea_nil) (rdc_lenS (by rw [S_len]; exact hline))) o fun n M2 H2 e2 o2 dn => ?_
  refine ⟨Nat.zero_le _, fun L hL => ⟨_, _, rfl, ?_⟩⟩
  have A0 : Acc T M2 H2 L [] M2 (upd H2 L (.lst [])) [] := Acc.start o2 hL
  have da2 := da.mono e2.m
  have comp : ∀ (c : Nat) (z : Str) (M5 : Hp) (σ5 : L2.St), z = S [c] → (wipe σ5 [9])[0]? = some (some a) → (9 < σ5.length) → De M5 a (strD l) → (wipe σ5 [9])[1]? = some (some n) → σ5[1]? = some (some n) → De M5 n (.int (l.length : Int)) →
      (∀ x, ((wipe σ5 [9]).set 9 (some x))[0]? = some (some a)) → (∀ x : V, wipe ((wipe σ5 [9]).set 9 (some x)) [9] = wipe σ5 [9]) →
      Ed T (tLc (iRng1 (tCons (tVar 1) tNil)) (gName 9) (tTest (tOp rEq (tOp rIxS (tVar 0) (tVar 9)) (tC (.str z)))) (tVar 9) [9]) σ5 M5 (.list ((ats l c).map natD)) := by
    intro c z M5 σ5 hzc _ h9 da5 _ hn5 dn5 h0 hw
    subst hzc
    refine ed_is (ed_lc (p := isAt l c) (f := id) (ei_rng1 (n := l.length) (ea_cons (ed_var hn5 dn5) ea_nil) (by omega)) (by rw [rgD_len]; omega) fun d hd x M6 s6 dx => ?_) (congrArg PyData.list (at_list l c))
    obtain ⟨i, hi, rfl⟩ := mem_rgD hd
    have h9' : ((wipe σ5 [9]).set 9 (some x))[9]? = some (some x) := List.getElem?_set_self (by rw [wipe_length]; exact h9)
    refine ⟨_, fun H1 Q s1 qq => qq, hw x, et_is (et_test (ed_op (ed_op (ed_var (h0 x) (da5.mono s6)) (ed_var h9' dx) (rd_ixS (j := i) (c := l.getD i 0) (by rw [S_len]; exact hline) (by omega) ?_)) ed_str rd_eqS)) ?_, fun _ => ed_var h9' dx⟩
    · rw [S_list, getD_get (z := 0) hi]
    · show decide ((⟨#[l.getD i 0]⟩ : Str) = S [c]) = (l.getD ((0 + i : Nat) : Int).toNat 0 == c)
      rw [S_one, show ((0 + i : Nat) : Int).toNat = i by omega, Bool.eq_iff_iff]
      simp [S_inj]
  refine go_par (comp 49 "1" M2 _ one1 rfl (by show 9 < 10; decide) da2 rfl rfl dn (fun _ => rfl) (fun _ => rfl)) A0.o fun w1 M3 H3 e3 o3 dw1 => ?_
  have A3 := A0.step e3
  refine Ed.go (comp 48 "0" M3 _ zero1 rfl (by show 9 < 10; decide) (da2.mono e3.m) rfl rfl (dn.mono e3.m) (fun _ => rfl) (fun _ => rfl)) o3 fun w0 M4 H4 e4 o4 dw0 => ⟨_, _, rfl, ?_⟩
  have A4 := A3.step e4
  have dn4 := (dn.mono e3.m).mono e4.m
  have dw14 := dw1.mono e4.m
  refine for_s (ei_rng2 (lo := 1) (hi := l.length + 1) (ea_cons ed_int (ea_cons (ed_is (ed_op (ed_var rfl dn4) ed_int rd_int) (by simp)) ea_nil)) (by omega) (by omega)) o4 (fun i M' σ' H' => Same M4 M' ∧ ∃ (x y u v : Option V) (acc : List V), σ' = [some a, some n, some (.ref L), some w1, some w0, x, y, u, v, none] ∧ Acc T M2 H2 L (((rels i).filter (holdsM l)).map relD) M' H' acc)
    (fun M5 H5 e5 => ⟨e5.m, none, none, none, none, [], rfl, A4.step e5⟩) ?_ ?_
  · rintro i d x M5 H5 M6 H6 σ5 N hd s5 o5 ⟨sm5, xo, yo, uo, vo, acc, rfl, a5⟩ e6 o6 dx hN
    have hi : i < l.length := by
      have := (List.getElem?_eq_some_iff.mp hd).1
      rw [rgD_len] at this
      omega
    rw [rgD_get (by omega)] at hd
    cases hd
    have a6 := a5.step e6
    have sm6 := sm5.trans e6.m
    have dx' : De M6 x (.int ((i + 1 : Nat) : Int)) := by
      rw [show i + 1 = 1 + i by omega]
      exact dx
    refine for_d (ei_rng1 (n := i + 1) (ea_cons (ed_var rfl dx') ea_nil) (by omega)) o6 (fun j M' σ' H' => Same M6 M' ∧ ∃ (y u v : Option V) (acc : List V), σ' = [some a, some n, some (.ref L), some w1, some w0, some x, y, u, v, none] ∧
        Acc T M2 H2 L ((((rels i) ++ (List.range j).map fun lo => (i + 1, lo)).filter (holdsM l)).map relD) M' H' acc)
      (fun M7 H7 e7 => ⟨e7.m, yo, uo, vo, acc, rfl, by rw [List.range_zero, List.map_nil, List.append_nil]; exact a6.step e7⟩) ?_ ?_
    · rintro j d y M7 H7 M8 H8 σ7 N2 hd s7 o7 ⟨sm7, yo, uo, vo, acc, rfl, a7⟩ e8 o8 dy hN2
      have hj : j < i + 1 := by
        have := (List.getElem?_eq_some_iff.mp hd).1
        rw [rgD_len] at this
        exact this
      rw [rgD_get hj] at hd
      cases hd
      have dy' : De M8 y (.int (j : Int)) := by
        have e0 : ((0 + j : Nat) : Int) = (j : Int) := by omega
        rw [e0] at dy
        exact dy
      have a8 := a7.step e8
      have sm8 := sm7.trans e8.m
      have s48 := sm6.trans sm8
      refine go_set (d := natD (placeM l 49 (j + 1))) (ed_if (et_test (ed_op (ed_cb (ea_cons (ed_var rfl (dw14.mono s48)) ea_nil) rdc_lenL) (ed_var rfl dy') rd_cmp)) (fun hb => ?_) (fun hb => ?_)) o8 fun v1 M9 H9 e9 o9 dv1 => ?_
      · have hb' : j < (ats l 49).length := by
          have := of_decide_eq_true hb
          rw [List.length_map] at this
          omega
        refine ed_op (ed_var rfl (dw14.mono s48)) (ed_var rfl dy') (rd_ixL (j := j) rfl ?_)
        unfold placeM
        rw [if_pos (by omega), List.getElem?_map, getD_get (z := 0) (l := ats l 49) (i := j) hb']
        rfl
      · have hb' : ¬ j < (ats l 49).length := by
          have := of_decide_eq_false hb
          rw [List.length_map] at this
          omega
        refine ed_is (ed_var rfl (dn4.mono s48)) ?_
        unfold placeM
        rw [if_neg (by omega)]
        rfl
      have a9 := a8.step e9
      have s49 := s48.trans e9.m
      have hsub : Ed T (tOp (rI0 fun i j => .int (i - j)) (tVar 1) (tVar 5)) [some a, some n, some (.ref L), some w1, some w0, some x, some y, some v1, vo, none] M9 (.int ((l.length - (i + 1) : Nat) : Int)) := by
        refine ed_is (ed_op (ed_var rfl (dn4.mono s49)) (ed_var rfl ((dx'.mono sm8).mono e9.m)) rd_int) ?_
        congr 1
        omega
      refine go_set (d := natD (placeM l 48 (l.length - (i + 1) + 1))) (ed_if (et_test (ed_op (ed_cb (ea_cons (ed_var rfl (dw0.mono s49)) ea_nil) rdc_lenL) hsub rd_cmp)) (fun hb => ?_) (fun hb => ?_)) o9 fun v2 M10 H10 e10 o10 dv2 => ?_
      · have hb' : l.length - (i + 1) < (ats l 48).length := by
          have := of_decide_eq_true hb
          rw [List.length_map] at this
          omega
        refine ed_op (ed_var rfl (dw0.mono s49)) hsub (rd_ixL (j := l.length - (i + 1)) rfl ?_)
        unfold placeM
        rw [if_pos (by omega), List.getElem?_map, getD_get (z := 0) (l := ats l 48) (i := l.length - (i + 1)) hb']
        rfl
      · have hb' : ¬ l.length - (i + 1) < (ats l 48).length := by
          have := of_decide_eq_false hb
          rw [List.length_map] at this
          omega
        refine ed_is (ed_var rfl (dn4.mono s49)) ?_
        unfold placeM
        rw [if_neg (by omega)]
        rfl
      have a10 := a9.step e10
      have esucc : (rels i ++ (List.range (j + 1)).map fun lo => ((i + 1, lo) : Rel)) = (rels i ++ (List.range j).map fun lo => (i + 1, lo)) ++ [(i + 1, j)] := by
        rw [List.range_succ, List.map_append, ← List.append_assoc]
        rfl
      refine go_if (b := holdsM l (i + 1, j)) (et_is (et_test (ed_op (ed_var rfl (dv1.mono e10.m)) (ed_var rfl dv2) rd_cmp)) ?_) o10 (fun hb M11 H11 e11 o11 => ?_) fun hb M11 H11 e11 o11 => ?_
      · unfold holdsM
        rw [Bool.eq_iff_iff]
        simp only [decide_eq_true_eq]
        omega
      · refine go_app (a10.step e11) ?_ rfl (ed_tup (ea_cons (ed_var rfl (((dx'.mono sm8).mono e9.m).mono (e10.m.trans e11.m))) (ea_cons (ed_var rfl ((dy'.mono e9.m).mono (e10.m.trans e11.m))) ea_nil)) (by show 2 ≤ 100000; decide)) fun M12 H12 acc12 s12 a12 => ?_
        · have q1 := List.length_filter_le (holdsM l) (rels i ++ (List.range j).map fun lo => (i + 1, lo))
          have q2 := rels_len i
          have q3 : i * i ≤ 100 * 100 := Nat.mul_le_mul (by omega) (by omega)
          rw [List.length_append, List.length_map, List.length_range] at q1
          rw [List.length_map]
          omega
        · refine hN2 M12 _ H12 (((e9.m.trans e10.m).trans e11.m).trans s12) a12.o ⟨((sm8.trans e9.m).trans (e10.m.trans e11.m)).trans s12, _, _, _, acc12, rfl, ?_⟩
          rw [esucc, List.filter_append, List.map_append]
          have e1 : List.map relD (List.filter (holdsM l) [(i + 1, j)]) = [PyData.tuple [.int ((i + 1 : Nat) : Int), .int (j : Int)]] := by
            rw [List.filter_cons, if_pos hb]
            rfl
          rw [e1]
          exact a12
      · refine hN2 M11 _ H11 ((e9.m.trans e10.m).trans e11.m) o11 ⟨(sm8.trans e9.m).trans (e10.m.trans e11.m), _, _, _, acc, rfl, ?_⟩
        rw [esucc, List.filter_append, List.map_append]
        have e1 : List.map relD (List.filter (holdsM l) [(i + 1, j)]) = [] := by
          rw [List.filter_cons, if_neg (by rw [hb]; decide)]
          rfl
        rw [e1, List.append_nil]
        exact a10.step e11
    · rintro M7 σ7 H7 s7 o7 ⟨sm7, yo, uo, vo, acc, rfl, a7⟩
      rw [rgD_len] at a7
      refine hN M7 _ H7 sm7 o7 ⟨sm6.trans sm7, _, _, _, _, acc, rfl, ?_⟩
      rw [rels_succ]
      exact a7
  · rintro M5 σ5 H5 s5 o5 ⟨sm5, xo, yo, uo, vo, acc, rfl, a5⟩
    rw [rgD_len] at a5
    obtain ⟨f1, f2⟩ := a5.fin
    exact go_ret (ed_var rfl f2) (o2.ex f1) fun v6 M6 H6 e6 dv6 => q v6 M6 H6 ((e2.trans f1).trans e6) dv6
end
end Rb

set_option Elab.async false
set_option linter.all false
set_option maxRecDepth 100000
set_option maxHeartbeats 4000000
namespace Rb
open PySem L2 PySem.Spec PyProof.Rows
/-! ### _law_alike: on equal data of ints, texts and tuples it says True -/
def okD : Nat → PyData → Prop
  | _, .int _ => True
  | _, .str _ => True
  | 0, _ => False
  | n + 1, .tuple ds => ds.length ≤ 10000 ∧ ∀ d ∈ ds, okD n d
  | _ + 1, _ => False
def rAlike : Nat → List PyData → PyData → Prop
  | 0 => fun _ _ => False
  | n + 1 => fun ds d => ∃ e, okD n e ∧ ds = [e, e] ∧ d = .bool true
theorem ed_isN {T : List Addr} {σ : L2.St} {M : Hp} {te : TE} {d : PyData} {b : Bool} (h : Ed T te σ M d) (hb : ∀ M v, De M v d → decide (v = V.non) = b) : Ed T (tIsN te) σ M (.bool b) := fun M1 H1 s o Q q => h M1 H1 s o _ fun v M2 H2 e2 dv => by
  show Q (.bl (decide (v = .non))) H2
  rw [hb M2 v dv]
  exact q _ M2 H2 e2 (.bl _)
theorem go_ifS {T : List Addr} {M H : Hp} {σ : L2.St} {D : Ends} {tt : TT} {tu tw tz : TS} {b : Bool} (h : EdT T tt σ M b) (o : Ok T M H) (h1 : b = true → ∀ M2 H2, Ex M H M2 H2 → Ok T M2 H2 → tu { D with nx := tz D } σ H2) (h2 : b = false → ∀ M2 H2, Ex M H M2 H2 → Ok T M2 H2 → tw { D with nx := tz D } σ H2) : tSeq (tIfS tt tu tw) tz D σ H :=
  go_if (D := { D with nx := tz D }) h o h1 h2
theorem nn_str (z : Str) : ∀ M v, De M v (.str z) → decide (v = V.non) = false := fun M v h => by cases h; rfl
theorem nn_int (z : Int) : ∀ M v, De M v (.int z) → decide (v = V.non) = false := fun M v h => by cases h; rfl
section
variable {P : Program} {w : World} {K : PySem.W.Frag} {mg : Str → Option Value} {base : Heap} {T : List Addr}
theorem scAlike : FnScope ["_law_found", "_law_due", "_law_k"] ["_law_found", "_law_due"] (defScope sAlike) := ⟨rfl, rfl, rfl, by decide +kernel, rfl, by decide +kernel, by decide +kernel⟩
theorem step_alike (D : Def K mg "_law_alike" sAlike ["_law_found", "_law_due"]) (X : Txt mg) (n : Nat) (F : Fn P w K mg base "_law_alike" n ["_law_found", "_law_due"] (spD T 2 (rAlike n))) :
    Fn P w K mg base "_law_alike" (n + 1) ["_law_found", "_law_due"] (spD T 2 (rAlike (n + 1))) := by
  refine D.fn scAlike rfl fun f cdv A outer s H vs Q E M ds d hr hl hR o dv q => ?_
  obtain ⟨e, he, rfl, rfl⟩ := hR
  obtain ⟨a, b, rfl, da, db⟩ := dv.two
  refine ⟨_, pss_cons (ps_if (pt_val (pe_callB call_isiT (by rfl) X.isi (by decide +kernel) (pa_cons (pv 1) (pa_cons (pe_tup (pa_cons (pe_bltn (v := .ty "tuple") (by rfl) X.tuple (by decide +kernel) rfl) (pa_cons (pe_bltn (v := .ty "list") (by rfl) X.list (by decide +kernel) rfl) pa_nil))) pa_nil))))
      (pss_cons (ps_if (PW.pt (pw_or (pt_not (pt_val (pe_callB call_isiT (by rfl) X.isi (by decide +kernel) (pa_cons (pv 0) (pa_cons (pe_tup (pa_cons (pe_bltn (v := .ty "tuple") (by rfl) X.tuple (by decide +kernel) rfl) (pa_cons (pe_bltn (v := .ty "list") (by rfl) X.list (by decide +kernel) rfl) pa_nil))) pa_nil)))))
          (pw_or1 (pt_cmpR op_ne (pe_callB call_isi (by rfl) X.isi (by decide +kernel) (pa_cons (pv 0) (pa_cons (pe_bltn (v := .ty "list") (by rfl) X.list (by decide +kernel) rfl) pa_nil)))
            (pe_callB call_isi (by rfl) X.isi (by decide +kernel) (pa_cons (pv 1) (pa_cons (pe_bltn (v := .ty "list") (by rfl) X.list (by decide +kernel) rfl) pa_nil))) (nomark _))))) (pss_one (ps_ret pe_bl)) pss_nil)
      (pss_cons (ps_if (pt_cmpR op_ne (pe_callB call_len_seq (by rfl) X.len PySem.boot_len (pa_cons (pv 0) pa_nil)) (pe_callB call_len_seq (by rfl) X.len PySem.boot_len (pa_cons (pv 1) pa_nil)) (nomark _)) (pss_one (ps_ret pe_bl)) pss_nil)
      (pss_one (ps_ret (pe_cmpR (op_eqD hr.units) (pe_lc (own := [("_law_k", 2)]) (g := gName 2) (tt := tNot (tB (tCall (spD T 2 (rAlike n)) [] E0 (tCons (tOp (rIxT K) (tVar 0) (tVar 2)) (tCons (tOp (rIxT K) (tVar 1) (tVar 2)) tNil))))) rfl scAlike.nd (pi_range1 (by rfl) X.range (pa_cons (pe_callB call_len_seq (by rfl) X.len PySem.boot_len (pa_cons (pv 1) pa_nil)) pa_nil))
          (blkOk_by (N := ["_law_found", "_law_due", "_law_k"]) (sc := defScope sAlike) (by decide +kernel)) (fun _ _ _ _ _ => pg_name (i := 2) scAlike.nd rfl (.inl rfl))
          (fun _ _ _ _ _ => pts_one (pt_not (pt_val (pe_callF F hr (by rfl) (pa_cons (pe_ix ix_tup (pv 0) (pv 2) (fun _ _ => rfl)) (pa_cons (pe_ix ix_tup (pv 1) (pv 2) (fun _ _ => rfl)) pa_nil)))))) (fun _ _ _ _ _ => pv 2)) (pe_lst pa_nil) (nomark _)))))) pss_nil)
    (pss_cons (ps_if (PW.pt (pw_or (pt_cmp (pc_isN (pv 1))) (pw_or1 (pt_val (pe_callB call_isi (by rfl) X.isi (by decide +kernel) (pa_cons (pv 1) (pa_cons (pe_bltn (v := .ty "str") (by rfl) X.str (by decide +kernel) rfl) pa_nil)))))))
      (pss_one (ps_ret (pe_and (pe_cmpR op_eq (pv 0) (pv 1) (nomark _)) (pe_one (pe_cmpR op_eq (pe_callB call_isi (by rfl) X.isi (by decide +kernel) (pa_cons (pv 0) (pa_cons (pe_bltn (v := .ty "str") (by rfl) X.str (by decide +kernel) rfl) pa_nil)))
        (pe_callB call_isi (by rfl) X.isi (by decide +kernel) (pa_cons (pv 1) (pa_cons (pe_bltn (v := .ty "str") (by rfl) X.str (by decide +kernel) rfl) pa_nil))) (nomark _)))))) pss_nil)
    (pss_one (ps_ret (pe_and (pe_callB call_isi (by rfl) X.isi (by decide +kernel) (pa_cons (pv 0) (pa_cons (pe_bltn (v := .ty "int") (by rfl) X.int (by decide +kernel) rfl) pa_nil)))
      (pe_and (pe_cmpR op_eq (pe_callB call_isi (by rfl) X.isi (by decide +kernel) (pa_cons (pv 0) (pa_cons (pe_bltn (v := .ty "bool") (by rfl) X.bool (by decide +kernel) rfl) pa_nil)))
        (pe_callB call_isi (by rfl) X.isi (by decide +kernel) (pa_cons (pv 1) (pa_cons (pe_bltn (v := .ty "bool") (by rfl) X.bool (by decide +kernel) rfl) pa_nil))) (nomark _))
        (pe_one (pe_cmpR op_eq (pv 0) (pv 1) (nomark _)))))))), ?_⟩
  cases e with
  | none => exact absurd he (by cases n <;> simp [okD])
  | bool _ => exact absurd he (by cases n <;> simp [okD])
  | list _ => exact absurd he (by cases n <;> simp [okD])
  | dict _ => exact absurd he (by cases n <;> simp [okD])
  | int i =>
    refine go_ifS (b := false) (et_is (et_B (ed_isiT (ed_var rfl db) kb_it kb_il)) rfl) o (fun z => nomatch z) fun _ M2 H2 e2 o2 => ?_
    have da2 := da.mono e2.m
    have db2 := db.mono e2.m
    refine go_ifS (b := false) (et_is (et_or (et_B (ed_isN (ed_var rfl db2) (nn_int i))) fun _ => et_B (ed_isi (ed_var rfl db2) kb_is)) rfl) o2 (fun z => nomatch z) fun _ M3 H3 e3 o3 => ?_
    have da3 := da2.mono e3.m
    have db3 := db2.mono e3.m
    exact go_ret (ed_is (ed_andV (ed_isi (ed_var rfl da3) kb_ii) fun _ => ed_andV (ed_op (ed_isi (ed_var rfl da3) kb_ib) (ed_isi (ed_var rfl db3) kb_ib) rd_eqB) fun _ => ed_op (ed_var rfl da3) (ed_var rfl db3) rd_eqI) (by simp)) o3 fun v4 M4 H4 e4 dv4 => q v4 M4 H4 ((e2.trans e3).trans e4) dv4
  | str z =>
    refine go_ifS (b := false) (et_is (et_B (ed_isiT (ed_var rfl db) kb_st kb_sl)) rfl) o (fun z => nomatch z) fun _ M2 H2 e2 o2 => ?_
    have da2 := da.mono e2.m
    have db2 := db.mono e2.m
    refine go_ifS (b := true) (et_is (et_or (et_B (ed_isN (ed_var rfl db2) (nn_str z))) fun _ => et_B (ed_isi (ed_var rfl db2) kb_ss)) rfl) o2 (fun _ M3 H3 e3 o3 => ?_) fun z => nomatch z
    have da3 := da2.mono e3.m
    have db3 := db2.mono e3.m
    exact go_ret (ed_is (ed_andV (ed_op (ed_var rfl da3) (ed_var rfl db3) rd_eqS) fun _ => ed_op (ed_isi (ed_var rfl da3) kb_ss) (ed_isi (ed_var rfl db3) kb_ss) rd_eqB) (by simp)) o3 fun v4 M4 H4 e4 dv4 => q v4 M4 H4 ((e2.trans e3).trans e4) dv4
  | tuple ds =>
    cases n with
    | zero => exact absurd he (by simp [okD])
    | succ m =>
      obtain ⟨hlen, hok⟩ := (show ds.length ≤ 10000 ∧ ∀ d ∈ ds, okD m d from he)
      refine go_ifS (b := true) (et_is (et_B (ed_isiT (ed_var rfl db) kb_tt kb_tl)) rfl) o (fun _ M2 H2 e2 o2 => ?_) fun z => nomatch z
      have da2 := da.mono e2.m
      have db2 := db.mono e2.m
      refine go_ifS (b := false) (et_is (et_or (et_not (et_B (ed_isiT (ed_var rfl da2) kb_tt kb_tl))) fun _ => et_test (ed_op (ed_isi (ed_var rfl da2) kb_tl) (ed_isi (ed_var rfl db2) kb_tl) rd_neB)) rfl) o2 (fun z => nomatch z) fun _ M3 H3 e3 o3 => ?_
      have da3 := da2.mono e3.m
      have db3 := db2.mono e3.m
      refine go_ifS (b := false) (et_is (et_test (ed_op (ed_cb (ea_cons (ed_var rfl da3) ea_nil) rdc_lenT) (ed_cb (ea_cons (ed_var rfl db3) ea_nil) rdc_lenT) rd_neI)) (by simp)) o3 (fun z => nomatch z) fun _ M4 H4 e4 o4 => ?_
      have da4 := da3.mono e4.m
      have db4 := db3.mono e4.m
      have hfil : ((rgD 0 ds.length).filter fun _ => false).map id = [] := by
        rw [List.map_id]
        exact List.filter_eq_nil_iff.mpr fun _ _ => by decide
      refine go_ret (ed_is (ed_op (ed_is (ed_lc (p := fun _ => false) (f := id) (ei_rng1 (n := ds.length) (ea_cons (ed_cb (ea_cons (ed_var rfl db4) ea_nil) rdc_lenT) ea_nil) (by omega)) (by rw [rgD_len]; omega) fun d hd x M5 s5 dx => ?_) (congrArg PyData.list hfil)) (ed_lst (ds := []) ea_nil (by decide)) (rd_eqD (by decide +kernel) (by decide +kernel))) (by rfl)) o4 fun v5 M5 H5 e5 dv5 => q v5 M5 H5 (((e2.trans e3).trans e4).trans e5) dv5
      obtain ⟨j, hj, rfl⟩ := mem_rgD hd
      have hget : ds[j]? = some ds[j] := List.getElem?_eq_getElem hj
      have e0 : ((0 + j : Nat) : Int) = (j : Int) := by omega
      refine ⟨_, fun H1 Q s1 qq => qq, rfl, et_is (et_not (et_B (b := true) (ed_call (d := .bool true) (ea_cons (ed_op (ed_var rfl (da4.mono s5)) (ed_var rfl dx) (rd_ixT (j := j) e0 hget)) (ea_cons (ed_op (ed_var rfl (db4.mono s5)) (ed_var rfl dx) (rd_ixT (j := j) e0 hget)) ea_nil)) rfl ⟨ds[j], hok _ (List.getElem_mem hj), rfl, rfl⟩))) rfl, fun z => nomatch z⟩
theorem ok_alike (D : Def K mg "_law_alike" sAlike ["_law_found", "_law_due"]) (X : Txt mg) : ∀ n, Fn P w K mg base "_law_alike" n ["_law_found", "_law_due"] (spD T 2 (rAlike n))
  | 0 => by
    obtain ⟨f, fd, F, hm, b⟩ := D
    exact ⟨f, fd, ⟨fun vs H Q E h => by obtain ⟨_, _, _, _, h, _⟩ := h; exact h.elim, fun A outer s H args us vs Q E hr e0 hb r h => by obtain ⟨_, _, _, _, h, _⟩ := h; exact h.elim⟩, hm, F.kp, b⟩
  | n + 1 => step_alike D X n (ok_alike D X n)
end
end Rb

set_option Elab.async false
set_option linter.all false
set_option maxRecDepth 100000
set_option maxHeartbeats 4000000
/-! ### plain facts at spans 1 to 5 -/
namespace Rb
open PySem L2
def bits (n : Nat) (m : List Nat) : List Bool := (rels n).map (holdsM m)
def tab1 : List (List Bool) := [[false], [true]]
def tab2 : List (List Bool) := [[false, false, false], [true, false, false], [true, true, false], [true, true, true]]
def tab3 : List (List Bool) := [[false, false, false, false, false, false], [true, false, false, false, false, false], [true, true, false, false, false, false], [true, true, true, false, false, false], [true, true, false, true, false, false], [true, true, true, true, false, false], [true, true, true, true, true, false], [true, true, true, true, true, true]]
def tab4 : List (List Bool) := [[false, false, false, false, false, false, false, false, false, false], [true, false, false, false, false, false, false, false, false, false], [true, true, false, false, false, false, false, false, false, false], [true, true, true, false, false, false, false, false, false, false], [true, true, false, true, false, false, false, false, false, false], [true, true, true, true, false, false, false, false, false, false], [true, true, true, true, true, false, false, false, false, false], [true, true, true, true, true, true, false, false, false, false], [true, true, false, true, false, false, true, false, false, false], [true, true, true, true, false, false, true, false, false, false], [true, true, true, true, true, false, true, false, false, false], [true, true, true, true, true, true, true, false, false, false], [true, true, true, true, true, false, true, true, false, false], [true, true, true, true, true, true, true, true, false, false], [true, true, true, true, true, true, true, true, true, false], [true, true, true, true, true, true, true, true, true, true]]
def tab5 : List (List Bool) := [[false, false, false, false, false, false, false, false, false, false, false, false, false, false, false], [true, false, false, false, false, false, false, false, false, false, false, false, false, false, false], [true, true, false, false, false, false, false, false, false, false, false, false, false, false, false], [true, true, true, false, false, false, false, false, false, false, false, false, false, false, false], [true, true, false, true, false, false, false, false, false, false, false, false, false, false, false], [true, true, true, true, false, false, false, false, false, false, false, false, false, false, false], [true, true, true, true, true, false, false, false, false, false, false, false, false, false, false], [true, true, true, true, true, true, false, false, false, false, false, false, false, false, false], [true, true, false, true, false, false, true, false, false, false, false, false, false, false, false], [true, true, true, true, false, false, true, false, false, false, false, false, false, false, false], [true, true, true, true, true, false, true, false, false, false, false, false, false, false, false], [true, true, true, true, true, true, true, false, false, false, false, false, false, false, false], [true, true, true, true, true, false, true, true, false, false, false, false, false, false, false], [true, true, true, true, true, true, true, true, false, false, false, false, false, false, false], [true, true, true, true, true, true, true, true, true, false, false, false, false, false, false], [true, true, true, true, true, true, true, true, true, true, false, false, false, false, false], [true, true, false, true, false, false, true, false, false, false, true, false, false, false, false], [true, true, true, true, false, false, true, false, false, false, true, false, false, false, false], [true, true, true, true, true, false, true, false, false, false, true, false, false, false, false], [true, true, true, true, true, true, true, false, false, false, true, false, false, false, false], [true, true, true, true, true, false, true, true, false, false, true, false, false, false, false], [true, true, true, true, true, true, true, true, false, false, true, false, false, false, false], [true, true, true, true, true, true, true, true, true, false, true, false, false, false, false], [true, true, true, true, true, true, true, true, true, true, true, false, false, false, false], [true, true, true, true, true, false, true, true, false, false, true, true, false, false, false], [true, true, true, true, true, true, true, true, false, false, true, true, false, false, false], [true, true, true, true, true, true, true, true, true, false, true, true, false, false, false], [true, true, true, true, true, true, true, true, true, true, true, true, false, false, false], [true, true, true, true, true, true, true, true, true, false, true, true, true, false, false], [true, true, true, true, true, true, true, true, true, true, true, true, true, false, false], [true, true, true, true, true, true, true, true, true, true, true, true, true, true, false], [true, true, true, true, true, true, true, true, true, true, true, true, true, true, true]]
def tabU : Nat → List (List Bool)
  | 1 => tab1
  | 2 => tab2
  | 3 => tab3
  | 4 => tab4
  | _ => tab5
def beqB : List Bool → List Bool → Bool
  | [], [] => true
  | true :: a, true :: b => beqB a b
  | false :: a, false :: b => beqB a b
  | _, _ => false
theorem beqB_eq : ∀ a b : List Bool, beqB a b = true → a = b
  | [], [], _ => rfl
  | true :: a, true :: b, h => by rw [beqB_eq a b h]
  | false :: a, false :: b, h => by rw [beqB_eq a b h]
  | [], _ :: _, h => nomatch h
  | _ :: _, [], h => by rename_i x _; cases x <;> exact nomatch h
  | true :: _, false :: _, h => nomatch h
  | false :: _, true :: _, h => nomatch h
def andB : List Bool → List Bool → List Bool
  | x :: a, y :: b => (x && y) :: andB a b
  | _, _ => []
def orB : List Bool → List Bool → List Bool
  | x :: a, y :: b => (x || y) :: orB a b
  | _, _ => []
theorem and_map {α : Type} (f g : α → Bool) : ∀ l : List α, andB (l.map f) (l.map g) = l.map fun r => f r && g r
  | [] => rfl
  | a :: l => by
    show (f a && g a) :: andB (l.map f) (l.map g) = _
    rw [and_map f g l]; rfl
theorem or_map {α : Type} (f g : α → Bool) : ∀ l : List α, orB (l.map f) (l.map g) = l.map fun r => f r || g r
  | [] => rfl
  | a :: l => by
    show (f a || g a) :: orB (l.map f) (l.map g) = _
    rw [or_map f g l]; rfl
theorem tab_ok : ∀ n ∈ [1, 2, 3, 4, 5], (mems n).map (bits n) = tabU n := by decide +kernel
theorem tab_and : ∀ n ∈ [1, 2, 3, 4, 5], ((tabU n).all fun a => (tabU n).all fun b => (tabU n).any fun c => beqB c (andB a b)) = true := by decide +kernel
theorem tab_or : ∀ n ∈ [1, 2, 3, 4, 5], ((tabU n).all fun a => (tabU n).all fun b => (tabU n).any fun c => beqB c (orB a b)) = true := by decide +kernel
theorem tab_ones : ∀ n ∈ [1, 2, 3, 4, 5], ((tabU n).any fun c => c.all id) = true := by decide +kernel
theorem tab_nil : ∀ n ∈ [1, 2, 3, 4, 5], ((tabU n).any fun c => c.all not) = true := by decide +kernel
theorem five {n : Nat} (h1 : 1 ≤ n) (h2 : n ≤ 5) : n ∈ [1, 2, 3, 4, 5] := by
  rcases (show n = 1 ∨ n = 2 ∨ n = 3 ∨ n = 4 ∨ n = 5 by omega) with e | e | e | e | e <;> subst e <;> decide
theorem map_all {α β : Type} {f g : α → β} : ∀ {l : List α}, l.map f = l.map g → ∀ r ∈ l, f r = g r
  | [], _, _, h => nomatch h
  | a :: l, e, r, h => by
    rw [List.map_cons, List.map_cons] at e
    injection e with e1 e2
    rcases List.mem_cons.mp h with h | h
    · rw [h]; exact e1
    · exact map_all e2 r h
theorem meet {n : Nat} (h1 : 1 ≤ n) (h2 : n ≤ 5) {a b : List Nat} (ha : a ∈ mems n) (hb : b ∈ mems n) : ∃ c ∈ mems n, ∀ r ∈ rels n, holdsM c r = (holdsM a r && holdsM b r) := by
  have hn := five h1 h2
  have ht := tab_and n hn
  have e := tab_ok n hn
  rw [← e, List.all_eq_true] at ht
  have h3 := ht _ (List.mem_map.mpr ⟨a, ha, rfl⟩)
  rw [List.all_eq_true] at h3
  have h4 := h3 _ (List.mem_map.mpr ⟨b, hb, rfl⟩)
  rw [List.any_eq_true] at h4
  obtain ⟨x, hx, hc⟩ := h4
  obtain ⟨c, hc1, rfl⟩ := List.mem_map.mp hx
  have h5 := beqB_eq _ _ hc
  unfold bits at h5
  rw [and_map] at h5
  exact ⟨c, hc1, map_all h5⟩
theorem join {n : Nat} (h1 : 1 ≤ n) (h2 : n ≤ 5) {a b : List Nat} (ha : a ∈ mems n) (hb : b ∈ mems n) : ∃ c ∈ mems n, ∀ r ∈ rels n, holdsM c r = (holdsM a r || holdsM b r) := by
  have hn := five h1 h2
  have ht := tab_or n hn
  have e := tab_ok n hn
  rw [← e, List.all_eq_true] at ht
  have h3 := ht _ (List.mem_map.mpr ⟨a, ha, rfl⟩)
  rw [List.all_eq_true] at h3
  have h4 := h3 _ (List.mem_map.mpr ⟨b, hb, rfl⟩)
  rw [List.any_eq_true] at h4
  obtain ⟨x, hx, hc⟩ := h4
  obtain ⟨c, hc1, rfl⟩ := List.mem_map.mp hx
  have h5 := beqB_eq _ _ hc
  unfold bits at h5
  rw [or_map] at h5
  exact ⟨c, hc1, map_all h5⟩
theorem ones {n : Nat} (h1 : 1 ≤ n) (h2 : n ≤ 5) : ∃ c ∈ mems n, ∀ r ∈ rels n, holdsM c r = true := by
  have hn := five h1 h2
  have ht := tab_ones n hn
  rw [← tab_ok n hn, List.any_eq_true] at ht
  obtain ⟨x, hx, hc⟩ := ht
  obtain ⟨c, hc1, rfl⟩ := List.mem_map.mp hx
  refine ⟨c, hc1, fun r hr => ?_⟩
  exact List.all_eq_true.mp hc _ (List.mem_map.mpr ⟨r, hr, rfl⟩)
theorem zeros {n : Nat} (h1 : 1 ≤ n) (h2 : n ≤ 5) : ∃ c ∈ mems n, ∀ r ∈ rels n, holdsM c r = false := by
  have hn := five h1 h2
  have ht := tab_nil n hn
  rw [← tab_ok n hn, List.any_eq_true] at ht
  obtain ⟨x, hx, hc⟩ := ht
  obtain ⟨c, hc1, rfl⟩ := List.mem_map.mp hx
  refine ⟨c, hc1, fun r hr => ?_⟩
  have := List.all_eq_true.mp hc _ (List.mem_map.mpr ⟨r, hr, rfl⟩)
  simpa using this
theorem mem_on {n : Nat} {m : List Nat} (hm : m ∈ mems n) {r : Rel} : r ∈ onM m ↔ r ∈ rels n ∧ holdsM m r = true := by
  unfold onM
  rw [mems_len n m hm, List.mem_filter]
theorem foundA_ne {n : Nat} (h1 : 1 ≤ n) (h2 : n ≤ 5) {rs : List Rel} (h : ∀ r ∈ rs, r ∈ rels n) : foundA n rs ≠ [] := by
  obtain ⟨c, hc, hr⟩ := ones h1 h2
  intro e
  have hm : prOf c ∈ foundA n rs := List.mem_map.mpr ⟨c, List.mem_filter.mpr ⟨hc, ?_⟩, rfl⟩
  · rw [e] at hm
    cases hm
  · unfold isAbove
    rw [List.all_eq_true]
    intro r hrs
    exact decide_eq_true ((mem_on hc).mpr ⟨h r hrs, hr r (h r hrs)⟩)
theorem foundB_ne {n : Nat} (h1 : 1 ≤ n) (h2 : n ≤ 5) (rs : List Rel) : foundB n rs ≠ [] := by
  obtain ⟨c, hc, hr⟩ := zeros h1 h2
  intro e
  have hm : prOf c ∈ foundB n rs := List.mem_map.mpr ⟨c, List.mem_filter.mpr ⟨hc, ?_⟩, rfl⟩
  · rw [e] at hm
    cases hm
  · unfold isBelow
    rw [List.all_eq_true]
    intro r hrs
    obtain ⟨q1, q2⟩ := (mem_on hc).mp hrs
    rw [hr r q1] at q2
    cases q2
theorem minP_low : ∀ (ps : List Pr) (p : Pr), minP p ps ∈ p :: ps ∧ ∀ q ∈ p :: ps, (minP p ps).1 ≤ q.1
  | [], p => ⟨List.mem_cons_self, fun q hq => by
    rcases List.mem_cons.mp hq with e | hq
    · rw [e]; exact Nat.le_refl _
    · cases hq⟩
  | y :: ps, p => by
    have e : minP p (y :: ps) = minP (if ltP y p then y else p) ps := rfl
    rw [e]
    by_cases h : ltP y p = true
    · rw [if_pos h]
      obtain ⟨i1, i2⟩ := minP_low ps y
      have hy : y.1 ≤ p.1 := by
        unfold ltP at h
        simp only [Bool.or_eq_true, Bool.and_eq_true, decide_eq_true_eq] at h
        omega
      refine ⟨List.mem_cons_of_mem _ i1, fun q hq => ?_⟩
      rcases List.mem_cons.mp hq with e | hq
      · rw [e]; exact Nat.le_trans (i2 y List.mem_cons_self) hy
      · exact i2 q hq
    · rw [if_neg h]
      obtain ⟨i1, i2⟩ := minP_low ps p
      have hy : p.1 ≤ y.1 := by
        refine Nat.le_of_not_lt fun z => h ?_
        unfold ltP
        simp [z]
      refine ⟨?_, fun q hq => ?_⟩
      · rcases List.mem_cons.mp i1 with e | i1
        · rw [e]; exact List.mem_cons_self
        · exact List.mem_cons_of_mem _ (List.mem_cons_of_mem _ i1)
      · rcases List.mem_cons.mp hq with e | hq
        · rw [e]; exact i2 p List.mem_cons_self
        · rcases List.mem_cons.mp hq with e | hq
          · rw [e]; exact Nat.le_trans (i2 p List.mem_cons_self) hy
          · exact i2 q (List.mem_cons_of_mem _ hq)
theorem maxP_high : ∀ (ps : List Pr) (p : Pr), maxP p ps ∈ p :: ps ∧ ∀ q ∈ p :: ps, q.1 ≤ (maxP p ps).1
  | [], p => ⟨List.mem_cons_self, fun q hq => by
    rcases List.mem_cons.mp hq with e | hq
    · rw [e]; exact Nat.le_refl _
    · cases hq⟩
  | y :: ps, p => by
    have e : maxP p (y :: ps) = maxP (if ltP p y then y else p) ps := rfl
    rw [e]
    by_cases h : ltP p y = true
    · rw [if_pos h]
      obtain ⟨i1, i2⟩ := maxP_high ps y
      have hy : p.1 ≤ y.1 := by
        unfold ltP at h
        simp only [Bool.or_eq_true, Bool.and_eq_true, decide_eq_true_eq] at h
        omega
      refine ⟨List.mem_cons_of_mem _ i1, fun q hq => ?_⟩
      rcases List.mem_cons.mp hq with e | hq
      · rw [e]; exact Nat.le_trans hy (i2 y List.mem_cons_self)
      · exact i2 q hq
    · rw [if_neg h]
      obtain ⟨i1, i2⟩ := maxP_high ps p
      have hy : y.1 ≤ p.1 := by
        refine Nat.le_of_not_lt fun z => h ?_
        unfold ltP
        simp [z]
      refine ⟨?_, fun q hq => ?_⟩
      · rcases List.mem_cons.mp i1 with e | i1
        · rw [e]; exact List.mem_cons_self
        · exact List.mem_cons_of_mem _ (List.mem_cons_of_mem _ i1)
      · rcases List.mem_cons.mp hq with e | hq
        · rw [e]; exact i2 p List.mem_cons_self
        · rcases List.mem_cons.mp hq with e | hq
          · rw [e]; exact Nat.le_trans hy (i2 p List.mem_cons_self)
          · exact i2 q (List.mem_cons_of_mem _ hq)
theorem least_in {n : Nat} {rs : List Rel} (h : foundA n rs ≠ []) : leastM n rs ∈ mems n ∧ isAbove rs (leastM n rs) = true ∧ ∀ m ∈ mems n, isAbove rs m = true → (onM (leastM n rs)).length ≤ (onM m).length := by
  unfold leastM
  cases hf : foundA n rs with
  | nil => exact absurd hf h
  | cons p ps =>
    obtain ⟨i1, i2⟩ := minP_low ps p
    have hm := i1
    rw [← hf] at hm
    obtain ⟨c, hc, e⟩ := List.mem_map.mp hm
    obtain ⟨c1, c2⟩ := List.mem_filter.mp hc
    show (minP p ps).2 ∈ mems n ∧ isAbove rs (minP p ps).2 = true ∧ _
    have e2 : (minP p ps).2 = c := by rw [← e]; rfl
    have e3 : (minP p ps).1 = (onM c).length := by rw [← e]; rfl
    refine ⟨by rw [e2]; exact c1, by rw [e2]; exact c2, fun m m1 m2 => ?_⟩
    have := i2 (prOf m) (by rw [← hf]; exact List.mem_map.mpr ⟨m, List.mem_filter.mpr ⟨m1, m2⟩, rfl⟩)
    rw [e3] at this
    show (onM (minP p ps).2).length ≤ _
    rw [e2]
    exact this
theorem great_in {n : Nat} {rs : List Rel} (h : foundB n rs ≠ []) : greatM n rs ∈ mems n ∧ isBelow rs (greatM n rs) = true ∧ ∀ m ∈ mems n, isBelow rs m = true → (onM m).length ≤ (onM (greatM n rs)).length := by
  unfold greatM
  cases hf : foundB n rs with
  | nil => exact absurd hf h
  | cons p ps =>
    obtain ⟨i1, i2⟩ := maxP_high ps p
    have hm := i1
    rw [← hf] at hm
    obtain ⟨c, hc, e⟩ := List.mem_map.mp hm
    obtain ⟨c1, c2⟩ := List.mem_filter.mp hc
    show (maxP p ps).2 ∈ mems n ∧ isBelow rs (maxP p ps).2 = true ∧ _
    have e2 : (maxP p ps).2 = c := by rw [← e]; rfl
    have e3 : (maxP p ps).1 = (onM c).length := by rw [← e]; rfl
    refine ⟨by rw [e2]; exact c1, by rw [e2]; exact c2, fun m m1 m2 => ?_⟩
    have := i2 (prOf m) (by rw [← hf]; exact List.mem_map.mpr ⟨m, List.mem_filter.mpr ⟨m1, m2⟩, rfl⟩)
    rw [e3] at this
    show _ ≤ (onM (maxP p ps).2).length
    rw [e2]
    exact this
theorem on_eq {n : Nat} {m : List Nat} (hm : m ∈ mems n) : onM m = (rels n).filter (holdsM m) := by
  unfold onM
  rw [mems_len n m hm]
theorem above_iff {n : Nat} {m : List Nat} (hm : m ∈ mems n) {rs : List Rel} (h : ∀ r ∈ rs, r ∈ rels n) : isAbove rs m = true ↔ ∀ r ∈ rs, holdsM m r = true := by
  unfold isAbove
  rw [List.all_eq_true]
  constructor
  · intro q r hr
    exact ((mem_on hm).mp (of_decide_eq_true (q r hr))).2
  · intro q r hr
    exact decide_eq_true ((mem_on hm).mpr ⟨h r hr, q r hr⟩)
theorem below_iff {n : Nat} {m : List Nat} (hm : m ∈ mems n) {rs : List Rel} : isBelow rs m = true ↔ ∀ r ∈ rels n, holdsM m r = true → r ∈ rs := by
  unfold isBelow
  rw [List.all_eq_true]
  constructor
  · intro q r hr h
    exact of_decide_eq_true (q r ((mem_on hm).mpr ⟨hr, h⟩))
  · intro q r hr
    obtain ⟨q1, q2⟩ := (mem_on hm).mp hr
    exact decide_eq_true (q r q1 q2)
/-- a filter within a filter that is not shorter is the same -/
theorem filt_same {α : Type} {l : List α} {f g : α → Bool} (hl : (l.filter g).length ≤ (l.filter fun r => g r && f r).length) : ∀ r ∈ l, g r = true → f r = true := by
  have e : (l.filter fun r => g r && f r) = (l.filter g).filter f := by rw [List.filter_filter]; congr 1; funext r; exact Bool.and_comm _ _
  rw [e] at hl
  have h2 := List.length_filter_le f (l.filter g)
  have h3 := List.length_filter_eq_length_iff.mp (Nat.le_antisymm h2 hl)
  intro r hr hg
  exact h3 r (List.mem_filter.mpr ⟨hr, hg⟩)
theorem least_all {n : Nat} (h1 : 1 ≤ n) (h2 : n ≤ 5) {rs : List Rel} (h : ∀ r ∈ rs, r ∈ rels n) {m : List Nat} (hm : m ∈ mems n) (ha : isAbove rs m = true) : ∀ r ∈ onM (leastM n rs), r ∈ onM m := by
  obtain ⟨l1, l2, l3⟩ := least_in (foundA_ne h1 h2 h)
  obtain ⟨c, hc, hr⟩ := meet h1 h2 l1 hm
  have h3 : isAbove rs c = true := (above_iff hc h).mpr fun r hrs => by
    rw [hr r (h r hrs), (above_iff l1 h).mp l2 r hrs, (above_iff hm h).mp ha r hrs]
    rfl
  have h4 := l3 c hc h3
  rw [on_eq l1, on_eq hc] at h4
  have e : (rels n).filter (holdsM c) = (rels n).filter fun r => holdsM (leastM n rs) r && holdsM m r := List.filter_congr hr
  rw [e] at h4
  have h5 := filt_same h4
  intro r hrr
  obtain ⟨q1, q2⟩ := (mem_on l1).mp hrr
  exact (mem_on hm).mpr ⟨q1, h5 r q1 q2⟩
theorem great_all {n : Nat} (h1 : 1 ≤ n) (h2 : n ≤ 5) {rs : List Rel} {m : List Nat} (hm : m ∈ mems n) (ha : isBelow rs m = true) : ∀ r ∈ onM m, r ∈ onM (greatM n rs) := by
  obtain ⟨l1, l2, l3⟩ := great_in (foundB_ne h1 h2 rs)
  obtain ⟨c, hc, hr⟩ := join h1 h2 l1 hm
  have h3 : isBelow rs c = true := (below_iff hc).mpr fun r hrs hh => by
    rw [hr r hrs, Bool.or_eq_true] at hh
    rcases hh with hh | hh
    · exact (below_iff l1).mp l2 r hrs hh
    · exact (below_iff hm).mp ha r hrs hh
  have h4 := l3 c hc h3
  rw [on_eq l1, on_eq hc] at h4
  have e : (rels n).filter (holdsM (greatM n rs)) = (rels n).filter fun r => holdsM c r && holdsM (greatM n rs) r := List.filter_congr fun r q => by
    rw [hr r q]
    cases holdsM (greatM n rs) r <;> cases holdsM m r <;> rfl
  rw [e] at h4
  have h5 := filt_same h4
  intro r hrr
  obtain ⟨q1, q2⟩ := (mem_on hm).mp hrr
  refine (mem_on l1).mpr ⟨q1, h5 r q1 ?_⟩
  rw [hr r q1, q2, Bool.or_true]
theorem pillar_least : ∀ n ∈ [1, 2, 3, 4, 5], ∀ r ∈ rels n, leastM n [r] = pillarM n r := by decide +kernel
/-- counts of two filters -/
theorem count_xor {α : Type} (p q : α → Bool) : ∀ l : List α, ((l.filter q).filter fun r => !p r).length + ((l.filter p).filter fun r => !q r).length = (l.filter fun r => p r != q r).length
  | [] => rfl
  | a :: l => by
    have ih := count_xor p q l
    simp only [List.filter_filter] at ih ⊢
    simp only [List.filter_cons]
    cases hp : p a <;> cases hq : q a <;> simp only [hp, hq, Bool.not_true, Bool.not_false, Bool.and_true, Bool.true_and, Bool.and_false, Bool.false_and, bne_self_eq_false, Bool.true_bne, Bool.false_bne, if_true, if_false, List.length_cons, Bool.false_eq_true] <;> omega
theorem gap_xor {n : Nat} {m : List Nat} (hm : m ∈ mems n) {rs : List Rel} {p : Rel → Bool} (hr : rs = (rels n).filter p ∨ rs = ((rels n).filter p).reverse) : gapM (onM m) rs = ((rels n).filter fun r => decide (r ∈ rs) != decide (r ∈ onM m)).length := by
  have hmem : ∀ r, r ∈ rs ↔ r ∈ (rels n).filter p := fun r => by
    rcases hr with e | e
    · rw [e]
    · rw [e, List.mem_reverse]
  have e1 : ((rels n).filter fun r => decide (r ∈ rs) != decide (r ∈ onM m)) = (rels n).filter fun r => p r != holdsM m r := List.filter_congr fun r q => by
    have a1 : decide (r ∈ rs) = p r := by
      rw [Bool.eq_iff_iff, decide_eq_true_eq, hmem, List.mem_filter]
      exact ⟨fun z => z.2, fun z => ⟨q, z⟩⟩
    have a2 : decide (r ∈ onM m) = holdsM m r := by
      rw [Bool.eq_iff_iff, decide_eq_true_eq, mem_on hm]
      exact ⟨fun z => z.2, fun z => ⟨q, z⟩⟩
    rw [a1, a2]
  rw [e1, ← count_xor]
  unfold gapM
  have e2 : ((onM m).filter fun r => !decide (r ∈ rs)) = ((rels n).filter (holdsM m)).filter fun r => !p r := by
    rw [on_eq hm]
    refine List.filter_congr fun r q => ?_
    have q2 := (List.mem_filter.mp q).1
    congr 1
    rw [Bool.eq_iff_iff, decide_eq_true_eq, hmem, List.mem_filter]
    exact ⟨fun z => z.2, fun z => ⟨q2, z⟩⟩
  have e3 : ((((rels n).filter p)).filter fun r => !decide (r ∈ onM m)) = ((rels n).filter p).filter fun r => !holdsM m r := by
    refine List.filter_congr fun r q => ?_
    have q2 := (List.mem_filter.mp q).1
    congr 1
    rw [Bool.eq_iff_iff, decide_eq_true_eq, mem_on hm]
    exact ⟨fun z => z.2, fun z => ⟨q2, z⟩⟩
  rw [e2]
  congr 1
  rw [← e3]
  rcases hr with e | e
  · rw [e]
  · rw [e, List.filter_reverse, List.length_reverse]
end Rb

set_option Elab.async false
set_option linter.all false
set_option maxRecDepth 100000
set_option maxHeartbeats 4000000
/-! ### dicts over the known heap -/
namespace Rb
open PySem L2 PySem.Spec PyProof.Rows
theorem sq_gr {K : PySem.W.Frag} {H H' : Hp} {a : Addr} {xs : List V} (g : Gr H H') (h : SqL K H a xs) : SqL K H' a xs := by
  rcases h with (h | ⟨ob, h⟩) | h
  · exact .inl (.inl (g.lst h))
  · exact .inl (.inr ⟨ob, g.keep h fun _ e => by cases e⟩)
  · exact .inr h
/-- an object that is no list, no tuple, no table -/
def Odd (u : HO) : Prop := (∀ xs, u ≠ .lst xs) ∧ (∀ xs, u ≠ .tup xs) ∧ ∀ ps, u ≠ .tbl ps
theorem odd_dK (kvs : List (L2.Key × V)) : Odd (.dK kvs) := ⟨(fun _ e => by cases e), (fun _ e => by cases e), (fun _ e => by cases e)⟩
theorem odd_frz (o : Obj) (u : HO) : Odd (.frz o u) := ⟨(fun _ e => by cases e), (fun _ e => by cases e), (fun _ e => by cases e)⟩
theorem De.put {M : Hp} {a : Addr} {u w : HO} {d : PyData} {v : V} (ha : M a = some u) (hu : Odd u) (h : De M v d) : De (upd M a w) v d :=
  De.mono' (fun b xs q => by
    have n : b ≠ a := fun z => by rw [z, ha] at q; exact hu.1 _ (Option.some.inj q)
    rw [upd_ne n]; exact q) (fun b xs q => by
    have n : b ≠ a := fun z => by rw [z, ha] at q; exact hu.2.1 _ (Option.some.inj q)
    rw [upd_ne n]; exact q) d v h
theorem Same.put {M N : Hp} {a : Addr} {w : HO} (s : Same M N) : Same (upd M a w) (upd N a w) := fun b o h => by
  by_cases q : b = a
  · subst q
    rw [upd_same] at h ⊢
    exact h
  · rw [upd_ne q] at h ⊢
    exact s b o h
section
variable {T : List Addr} {M H M2 H2 : Hp} {a : Addr} {u w : HO}
theorem Ok.put (o : Ok T M H) (ha : M a = some u) (hu : Odd u) : Ok T (upd M a w) (upd H a w) := by
  refine ⟨Same.put o.s, fun P hP => ?_, fun P hP => ?_⟩
  · obtain ⟨ps, e, t⟩ := o.t P hP
    have n : P ≠ a := fun z => by
      have := o.s a u ha
      rw [z, this] at e
      exact hu.2.2 _ (Option.some.inj e)
    exact ⟨ps, by rw [upd_ne n]; exact e, t⟩
  · have n : P ≠ a := fun z => by
      have := o.n P hP
      rw [z, ha] at this
      cases this
    rw [upd_ne n]
    exact o.n P hP
theorem Ex.unput (e : Ex (upd M a w) (upd H a w) M2 H2) (s : Same M H) (ha : M a = some u) : Ex M H (upd M2 a u) (upd H2 a u) := by
  have hw : M2 a = some w := e.m a w upd_same
  refine ⟨fun b o h => ?_, fun b o h => ?_, Same.put e.mh, fun b h => ?_⟩
  · by_cases q : b = a
    · subst q
      rw [upd_same, ← h, ha]
    · rw [upd_ne q]
      exact e.m b o (by rw [upd_ne q]; exact h)
  · by_cases q : b = a
    · subst q
      rw [upd_same, ← h, s _ _ ha]
      exact .inl rfl
    · rcases e.h b o (by rw [upd_ne q]; exact h) with z | ⟨z1, ps, z2, z3⟩
      · exact .inl (by rw [upd_ne q]; exact z)
      · exact .inr ⟨z1, ps, by rw [upd_ne q]; exact z2, z3⟩
  · by_cases q : b = a
    · subst q
      exact .inl (by rw [ha]; simp)
    · rw [upd_ne q] at h
      rcases e.fr b h with z | z
      · rw [upd_ne q] at z
        exact .inl z
      · rw [upd_ne q] at z
        exact .inr z
end
section
variable {T : List Addr} {σ : L2.St} {M H : Hp} {te ty : TE} {d : PyData} {K : PySem.W.Frag}
theorem ed_dget {i : Nat} {a : Addr} {kvs : List (L2.Key × V)} {z : Str} {v : V} (hi : σ[i]? = some (some (.ref a))) (hd : Rd M a (.dK kvs)) (hk : Ed T ty σ M (.str z)) (hv : valV kvs (.inr z) = some v) (dv : De M v d) : Ed T (tDGet (tVar i) ty) σ M d := fun M1 H1 s o Q q =>
  ⟨_, hi, hk M1 H1 s o _ fun y M2 H2 e2 dy => by
    cases dy.str_of
    have s2 := (s.trans e2.m).trans e2.mh
    refine ⟨a, v, rfl, .inl ⟨kvs, .inr z, ?_, rfl, hv.symm⟩, q v M2 H2 e2 (dv.mono (s.trans e2.m))⟩
    rcases hd with hd | ⟨ob, hd⟩
    · exact .inl (s2 _ _ hd)
    · exact .inr ⟨ob, s2 _ _ hd⟩⟩
/-- a reading under a lock -/
theorem ed_lock {a : Addr} {u : HO} (ha : M a = some u) (mu : Mut (some u)) (hu : Odd u) (h : ∀ ob, Ed T te σ (upd M a (.frz ob u)) d) : Ed T (tLockE te) σ M d := fun M1 H1 s o Q q => by
  have h1 := s _ _ ha
  refine ⟨a, u, o.s _ _ h1, mu, fun od => ?_⟩
  refine h od (upd M1 a (.frz od u)) (upd H1 a (.frz od u)) (Same.put s) (o.put h1 hu) _ fun v M2 H2 e2 dv => ?_
  have hf : M2 a = some (.frz od u) := e2.m _ _ upd_same
  exact ⟨e2.mh _ _ hf, q v _ _ (e2.unput o.s h1) (dv.put hf (odd_frz _ _))⟩
/-- name = a reading, the whole under a lock -/
theorem go_lockSet {a : Addr} {u : HO} {i : Nat} {tz : TS} {D : Ends} (ha : M a = some u) (mu : Mut (some u)) (hu : Odd u) (h : ∀ ob, Ed T te σ (upd M a (.frz ob u)) d) (o : Ok T M H)
    (k : ∀ v M2 H2, Ex M H M2 H2 → Ok T M2 H2 → De M2 v d → tz D (σ.set i (some v)) H2) : tSeq (tLock (tAsg te (gName i))) tz D σ H := by
  refine ⟨a, u, o.s _ _ ha, mu, fun od => ?_⟩
  refine h od (upd M a (.frz od u)) (upd H a (.frz od u)) (Same.refl _) (o.put ha hu) _ fun v M2 H2 e2 dv => ?_
  have hf : M2 a = some (.frz od u) := e2.m _ _ upd_same
  have e := e2.unput o.s ha
  exact ⟨e2.mh _ _ hf, k v _ _ e (o.ex e) (dv.put hf (odd_frz _ _))⟩
theorem ei_keys {i : Nat} {a : Addr} {od : Obj} {kvs : List (L2.Key × V)} {ms : List (List Nat)} (hi : σ[i]? = some (some (.ref a))) (hd : M a = some (.frz od (.dK kvs))) (hk : kvs.map Prod.fst = ms.map fun m => (Sum.inr (S m) : L2.Key)) :
    EdI T (iKeys (tVar i)) σ M (ms.map strD) := fun M1 H1 s o R q => by
  have hl : kvs.length = (ms.map strD).length := by
    have := congrArg List.length hk
    simpa using this
  refine ⟨_, hi, a, od, rfl, .inl ⟨kvs, o.s _ _ (s _ _ hd), ?_⟩⟩
  have W : Walk (Itk a od kvs) kvs.length (fun H => H a = some (.frz od (.dK kvs))) (fun i H x H' => H' = H ∧ ∃ k v, kvs[i]? = some (k, v) ∧ x = kV k) := walk_keys
  rw [hl] at W
  refine q M1 H1 _ _ _ o.refl W (fun H3 s3 => s3 _ _ (s _ _ hd)) fun j M3 H3 x H4 s3 s4 hj y => ?_
  obtain ⟨rfl, k, v, hkv, rfl⟩ := y
  have h1 : (kvs.map Prod.fst)[j]? = some k := by rw [List.getElem?_map, hkv]; rfl
  rw [hk, List.getElem?_map] at h1
  obtain ⟨m, hm, rfl⟩ := Option.map_eq_some_iff.mp h1
  exact ⟨M3, strD m, Ex.refl s4, by rw [List.getElem?_map, hm]; rfl, .str _⟩
end
/-- a dict at D, made since (M2, H2), not known yet -/
structure Own (T : List Addr) (M2 H2 : Hp) (D : Addr) (M' H' : Hp) (u : HO) : Prop where
  d2 : H2 D = none
  m2 : Same M2 H2
  m : Same M2 M'
  o : Ok T M' H'
  g : Gr H2 H'
  fr : ∀ b, M' b ≠ none → M2 b ≠ none ∨ (H2 b = none ∧ b ≠ D)
  d : H' D = some u
  w : Odd u
section
variable {T : List Addr} {M2 H2 M' H' M5 H5 : Hp} {D : Addr} {u : HO}
theorem Own.start (o : Ok T M2 H2) (h : H2 D = none) (w : Odd u) : Own T M2 H2 D M2 (upd H2 D u) u :=
  ⟨h, o.s, Same.refl _, o.mut (Same.no o.s h) (notab_none h), Gr.new h, fun _ h => .inl h, upd_same, w⟩
theorem Own.un (a : Own T M2 H2 D M' H' u) : M' D = none := by
  cases q : M' D with
  | none => rfl
  | some ob =>
    rcases a.fr D (by rw [q]; simp) with z | ⟨_, z⟩
    · exact absurd (Same.no a.m2 a.d2) z
    · exact absurd rfl z
theorem Own.step (a : Own T M2 H2 D M' H' u) (e : Ex M' H' M5 H5) : Own T M2 H2 D M5 H5 u :=
  ⟨a.d2, a.m2, a.m.trans e.m, a.o.ex e, a.g.trans e.h, (fun b hb => (e.fr b hb).elim (fun z => a.fr b z) fun z => .inr ⟨a.g.back z, fun q => by
      rw [q, a.d] at z
      cases z⟩), e.h.keep a.d a.w.2.2, a.w⟩
theorem Own.put (a : Own T M2 H2 D M' H' u) {u' : HO} (w : Odd u') : Own T M2 H2 D M' (upd H' D u') u' :=
  ⟨a.d2, a.m2, a.m, a.o.mut a.un (fun ⟨ps, e, _⟩ => by rw [a.d] at e; exact a.w.2.2 _ (Option.some.inj e)), a.g.mut a.d2, a.fr, upd_same, w⟩
theorem Own.fin (a : Own T M2 H2 D M' H' u) : Ex M2 H2 (upd M' D u) H' := by
  have un := a.un
  refine ⟨a.m.trans (Same.new un), a.g, fun b o h => ?_, fun b h => ?_⟩
  · by_cases q : b = D
    · rw [q, upd_same] at h
      rw [q, a.d]
      exact h
    · rw [upd_ne q] at h
      exact a.o.s b o h
  · by_cases q : b = D
    · rw [q]
      exact .inr a.d2
    · rw [upd_ne q] at h
      rcases a.fr b h with z | ⟨z, _⟩
      · exact .inl z
      · exact .inr z
end
/-! ### keys and values -/
section
variable {κ : Type} [DecidableEq κ]
theorem val_none {kvs : List (κ × V)} {k : κ} (h : k ∉ kvs.map Prod.fst) : valV kvs k = none := by
  induction kvs with
  | nil => rfl
  | cons p r ih =>
    rw [List.map_cons, List.mem_cons, not_or] at h
    rw [valV_neg (fun e => h.1 e.symm)]
    exact ih h.2
end
theorem merge_new : ∀ (kvs acc : List (L2.Key × V)), ((acc ++ kvs).map Prod.fst).Nodup → mergeK acc kvs = acc ++ kvs
  | [], acc, _ => by rw [List.append_nil]; rfl
  | p :: r, acc, h => by
    have hn : p.1 ∉ acc.map Prod.fst := fun hm => by
      rw [List.map_append, List.map_cons] at h
      exact (List.nodup_append.mp h).2.2 _ hm _ List.mem_cons_self rfl
    have e : mergeK acc (p :: r) = mergeK (putK acc p.1 p.2) r := rfl
    rw [e, putK_new _ (val_none hn)]
    have e2 : (acc ++ [(p.1, p.2)]) ++ r = acc ++ p :: r := by rw [List.append_assoc]; rfl
    rw [merge_new r (acc ++ [(p.1, p.2)]) (by rw [e2]; exact h), e2]
abbrev keyS (m : List Nat) : L2.Key := Sum.inr (S m)
theorem keyS_inj {a b : List Nat} (h : keyS a = keyS b) : a = b := S_inj.mp (Sum.inr.inj h)
theorem keys_nodup {ms : List (List Nat)} (h : ms.Nodup) : (ms.map keyS).Nodup := by
  induction ms with
  | nil => exact List.nodup_nil
  | cons a l ih =>
    rw [List.nodup_cons] at h
    rw [List.map_cons, List.nodup_cons]
    refine ⟨fun hm => ?_, ih h.2⟩
    obtain ⟨b, hb, e⟩ := List.mem_map.mp hm
    rw [keyS_inj e] at hb
    exact h.1 hb
theorem mems_nodup : ∀ n ∈ [1, 2, 3, 4, 5], (mems n).Nodup := by decide +kernel
theorem rels_nodup : ∀ n ∈ [1, 2, 3, 4, 5], (rels n).Nodup := by decide +kernel
/-- a list of pairs (memory, f) is a dict -/
theorem pairs_dict {K : PySem.W.Frag} {M : Hp} (f : List Nat → PyData) : ∀ {ms : List (List Nat)} {vs : List V}, DeAll M vs (ms.map fun m => .tuple [strD m, f m]) →
    ∃ (ps : List Addr) (kvs : List (L2.Key × V)), vs = ps.map V.ref ∧ Paired (fun p kv => SqT K M p [kV kv.1, kv.2]) ps kvs ∧ kvs.map Prod.fst = ms.map keyS ∧ ∀ m ∈ ms, ∃ v, valV kvs (keyS m) = some v ∧ De M v (f m)
  | [], vs, h => by
    rw [h.nilV]
    exact ⟨[], [], rfl, .nil, rfl, fun m hm => nomatch hm⟩
  | m :: ms, vs, h => by
    rw [List.map_cons] at h
    cases h with
    | cons h1 h2 =>
      obtain ⟨ps, kvs, rfl, hp, hk, hv⟩ := pairs_dict (K := K) f h2
      obtain ⟨a, xs, rfl, ha, hx⟩ := h1.tup_of
      obtain ⟨x, y, rfl, dx, dy⟩ := hx.two
      cases dx.str_of
      refine ⟨a :: ps, (keyS m, y) :: kvs, rfl, .cons (SqT.of ha) hp, by rw [List.map_cons, hk]; rfl, fun m' hm' => ?_⟩
      by_cases e : keyS m = keyS m'
      · rw [valV_pos (p := (keyS m, y)) e]
        rw [← keyS_inj e]
        exact ⟨y, rfl, dy⟩
      · rw [valV_neg (p := (keyS m, y)) e]
        rcases List.mem_cons.mp hm' with q | q
        · exact absurd (congrArg keyS q.symm) e
        · exact hv m' q
theorem val_of (f : List Nat → V) : ∀ {ms : List (List Nat)} {m : List Nat}, m ∈ ms → valV (ms.map fun m => (keyS m, f m)) (keyS m) = some (f m)
  | a :: ms, m, h => by
    rw [List.map_cons]
    by_cases e : keyS a = keyS m
    · rw [valV_pos (p := (keyS a, f a)) e, keyS_inj e]
    · rw [valV_neg (p := (keyS a, f a)) e]
      rcases List.mem_cons.mp h with q | q
      · exact absurd (congrArg keyS q.symm) e
      · exact val_of f q
/-! ### the least of whole numbers -/
theorem nats_of {M : Hp} : ∀ {ks : List Nat} {vs : List V}, DeAll M vs (ks.map natD) → vs = (ks.map fun k => ((k : Nat) : Int)).map V.int
  | [], vs, h => h.nilV
  | k :: ks, vs, h => by
    rw [List.map_cons] at h
    cases h with
    | cons h1 h2 =>
      rw [nats_of h2, h1.int_of]
      rfl
theorem rdc_minN {K : PySem.W.Frag} {ks : List Nat} {k : Nat} (h1 : k ∈ ks) (h2 : ∀ y ∈ ks, k ≤ y) : Rdc (rMin K) [.list (ks.map natD)] (natD k) := fun vs M H Q s dv q => by
  obtain ⟨v, rfl, dv1⟩ := dv.one
  obtain ⟨a, xs, rfl, ha, hx⟩ := dv1.lst_of
  rw [nats_of hx] at ha
  refine ⟨a, _, rfl, SqL.of (s _ _ ha), ?_, fun m hm hy => ?_⟩
  · rw [List.length_map]
    exact List.length_pos_of_mem h1
  · obtain ⟨j, hj, e⟩ := List.mem_map.mp hm
    subst e
    have h3 := h2 j hj
    have h4 := hy _ (List.mem_map.mpr ⟨k, h1, rfl⟩)
    have e : j = k := by omega
    rw [e]
    exact q _ M H (Ex.refl s) (.int _)
theorem lowP_in : ∀ {L : List Pr}, L ≠ [] → lowP L ∈ L.map Prod.fst ∧ ∀ y ∈ L.map Prod.fst, lowP L ≤ y
  | [], h => absurd rfl h
  | p :: ps, _ => by
    obtain ⟨h1, h2⟩ := minP_low ps p
    refine ⟨List.mem_map.mpr ⟨_, h1, rfl⟩, fun y hy => ?_⟩
    obtain ⟨q, hq, rfl⟩ := List.mem_map.mp hy
    exact h2 q hq
theorem near_low (n : Nat) (rs : List Rel) : nearLeast n rs ∈ (mems n).map (fun m => gapM (onM m) rs) ∧ ∀ y ∈ (mems n).map (fun m => gapM (onM m) rs), nearLeast n rs ≤ y := by
  have h := lowP_in (L := (mems n).map (gapPr rs)) fun e => mems_ne n (List.map_eq_nil_iff.mp e)
  rw [List.map_map] at h
  exact h
theorem sub_filter {α : Type} [DecidableEq α] : ∀ {k l : List α}, k.Sublist l → l.Nodup → ∃ p : α → Bool, k = l.filter p
  | _, _, .slnil, _ => ⟨fun _ => true, rfl⟩
  | _, _, .cons (l₁ := k) (l₂ := l) a h, hn => by
    rw [List.nodup_cons] at hn
    obtain ⟨p, e⟩ := sub_filter h hn.2
    refine ⟨fun x => !decide (x = a) && p x, ?_⟩
    have h1 : (!decide (a = a) && p a) = false := by simp
    rw [List.filter_cons, h1, if_neg (by decide), e]
    refine List.filter_congr fun x hx => ?_
    have : x ≠ a := fun z => hn.1 (z ▸ hx)
    simp [this]
  | _, _, .cons₂ (l₁ := k) (l₂ := l) a h, hn => by
    rw [List.nodup_cons] at hn
    obtain ⟨p, e⟩ := sub_filter h hn.2
    refine ⟨fun x => decide (x = a) || p x, ?_⟩
    have h1 : (decide (a = a) || p a) = true := by simp
    rw [List.filter_cons, h1, if_pos rfl]
    congr 1
    rw [e]
    refine List.filter_congr fun x hx => ?_
    have : x ≠ a := fun z => hn.1 (z ▸ hx)
    simp [this]
theorem memD_str (ms : List (List Nat)) (m : List Nat) : memD (ms.map strD) (strD m) = decide (m ∈ ms) := by
  unfold memD
  rw [List.any_map, Bool.eq_iff_iff]
  simp only [List.any_eq_true, Function.comp, decide_eq_true_eq]
  constructor
  · rintro ⟨x, h1, h2⟩
    have h3 : decide (x = m) = true := by rw [← eqv_S]; exact h2
    rw [← of_decide_eq_true h3]; exact h1
  · intro h
    refine ⟨m, h, ?_⟩
    show PyData.eqv (.str (S m)) (.str (S m)) = true
    rw [eqv_S]; simp
theorem mems_ok : ∀ n ∈ [1, 2, 3, 4, 5], ∀ m ∈ mems n, PyData.strOk (S m) = true := by decide +kernel
theorem strD_shaped {m : List Nat} (h : PyData.strOk (S m) = true) : SeqAt.shaped (strD m) = true := by
  simp [strD, SeqAt.shaped, PyData.canLay0, PyData.depth, h]
theorem strDs_lay : ∀ ms : List (List Nat), (∀ m ∈ ms, PyData.strOk (S m) = true) → PyData.canLayAll0 (ms.map strD) = true
  | [], _ => by simp [PyData.canLayAll0]
  | z :: zs, h => by simp [PyData.canLayAll0, strD, PyData.canLay0, strDs_lay zs fun m hm => h m (List.mem_cons_of_mem _ hm), h z List.mem_cons_self]
theorem strDs_depth : ∀ ms : List (List Nat), PyData.depthAll (ms.map strD) = 0
  | [] => by simp [PyData.depthAll]
  | z :: zs => by simp [PyData.depthAll, strD, PyData.depth, strDs_depth zs]
theorem strDs_shaped {ms : List (List Nat)} (h : ∀ m ∈ ms, PyData.strOk (S m) = true) : SeqAt.shaped (.list (ms.map strD)) = true := by
  have h1 := strDs_depth ms
  have h2 : PyData.depth (.list (ms.map strD)) ≤ 64 := by
    simp only [PyData.depth]
    omega
  show (PyData.canLay0 (.list (ms.map strD)) && decide (PyData.depth (.list (ms.map strD)) ≤ 64)) = true
  rw [Bool.and_eq_true]
  exact ⟨by simp only [PyData.canLay0]; exact strDs_lay ms h, decide_eq_true h2⟩
end Rb

set_option Elab.async false
set_option linter.all false
set_option maxRecDepth 100000
set_option maxHeartbeats 8000000
/-! ### law -/
namespace Rb
open PySem L2 PySem.Spec PyProof.Rows
section
variable {P : Program} {w : World} {K : PySem.W.Frag} {mg : Str → Option Value} {base : Heap} {T : List Addr}
theorem hu1 {k : Nat} {A : Around} (r : Room k A) : A.units + 1 < cLine := by have := r.un; omega
def stAt (st : Stmt) (i : Nat) : Stmt := match st with
  | .FunctionDef _ _ body _ _ _ _ _ _ _ => body.getD i (.Pass ⟨0, 0, 0, 0⟩)
  | _ => .Pass ⟨0, 0, 0, 0⟩
def lcScope (st : Stmt) : Scope := match st with
  | .Assign _ (.ListComp _ _ sc _) _ => sc
  | _ => { kind := .function, names := [], isGenerator := false, isCoroutine := false }
/-- the row that is drawn from -/
structure RowOk (K : PySem.W.Frag) (ns : List Int) (M H : Hp) (p a : Addr) : Prop where
  h : ∃ i s r : Int, H p = some (rowV a i s r) ∧ 0 ≤ i ∧ 0 ≤ s ∧ s < 2147483647
  m : M p = none
  s : SqL K M a (ns.map V.int)
theorem RowOk.ex {ns : List Int} {M H M' H' : Hp} {p a : Addr} (R : RowOk K ns M H p a) (e : Ex M H M' H') : RowOk K ns M' H' p a := by
  obtain ⟨i, s, r, h1, h2⟩ := R.h
  exact ⟨⟨i, s, r, e.h.keep h1 (fun _ z => by cases z), h2⟩, e.out R.m (fun z => by rw [h1] at z; cases z), sq_gr (Gr.same e.m) R.s⟩
theorem RowOk.put {ns : List Int} {M H : Hp} {p a D : Addr} {u : HO} (R : RowOk K ns M H p a) (n : D ≠ p) : RowOk K ns M (upd H D u) p a := by
  obtain ⟨i, s, r, h1, h2⟩ := R.h
  exact ⟨⟨i, s, r, by rw [upd_ne (Ne.symm n)]; exact h1, h2⟩, R.m, R.s⟩
theorem RowOk.know {ns : List Int} {M H : Hp} {p a D : Addr} {u : HO} (R : RowOk K ns M H p a) (n : D ≠ p) (h : M D = none) : RowOk K ns (upd M D u) H p a :=
  ⟨R.h, by rw [upd_ne (Ne.symm n)]; exact R.m, sq_gr (Gr.new h) R.s⟩
theorem RowOk.ne {ns : List Int} {M H : Hp} {p a D : Addr} {xs : List V} (R : RowOk K ns M H p a) (h : H D = none) : D ≠ p := fun z => by
  obtain ⟨i, s, r, h1, _⟩ := R.h
  rw [← z, h] at h1
  cases h1
/-- the script is known from the start -/
theorem know_script {ns : List Int} {H : Hp} {a : Addr} (h : SqL K H a (ns.map V.int)) (t : Tabs T H) : ∃ M, Ok T M H ∧ SqL K M a (ns.map V.int) := by
  have go : ∀ u, H a = some u → (∀ ps, u ≠ .tbl ps) → Ok T (upd (fun _ => none) a u) H := fun u hu hn => by
    refine ⟨fun b o e => ?_, t, fun P hP => ?_⟩
    · by_cases q : b = a
      · rw [q, upd_same] at e
        rw [q, hu, e]
      · rw [upd_ne q] at e
        cases e
    · have n : P ≠ a := fun z => by
        obtain ⟨ps, e, _⟩ := t P hP
        rw [z, hu] at e
        exact hn _ (Option.some.inj e)
      rw [upd_ne n]
  rcases h with (h | ⟨ob, h⟩) | h
  · exact ⟨_, go _ h (fun _ e => by cases e), .inl (.inl upd_same)⟩
  · exact ⟨_, go _ h (fun _ e => by cases e), .inl (.inr ⟨ob, upd_same⟩)⟩
  · exact ⟨fun _ => none, ⟨(fun _ _ e => nomatch e), t, (fun _ _ => rfl)⟩, .inr h⟩
theorem go_taken {ns : List Int} {M H : Hp} {p a : Addr} {m : Nat} {σ : L2.St} {E : XK} {Q : VK} (R : RowOk K ns M H p a) (o : Ok T M H) (hσ : σ[1]? = some (some (.ref p))) (h1 : 1 ≤ m) (h2 : m ≤ 1000)
    (k : ∀ (t : Nat) H', t < m → Ok T M H' → RowOk K ns M H' p a → (∀ b, b ≠ p → H' b = H b) → Q (.int (t : Int)) H') : tCall (spTaken K) [] E (tCons (tVar 1) (tCons (tC (.int (m : Int))) tNil)) σ H Q := by
  obtain ⟨i, s, r, r1, r2, r3, r4⟩ := R.h
  refine ⟨_, hσ, ?_⟩
  refine ⟨p, a, ns, i, s, r, m, rfl, h1, h2, r1, fun ob => ?_, r2, r3, r4, fun t i' s' r' ht q1 q2 q3 => ?_⟩
  · exact sq_gr (Gr.same (Same.mut o.s R.m)) R.s
  · exact k t _ ht (o.mut R.m fun ⟨ps, e, _⟩ => by rw [r1] at e; cases e) ⟨⟨i', s', r', upd_same, q1, q2, q3⟩, R.m, R.s⟩ fun b hb => upd_ne hb
/-- one of two, and it is 0 or not -/
theorem go_coin {ns : List Int} {M H : Hp} {p a : Addr} {σ : L2.St} {E : XK} {Q : Bool → Hp → Prop} (R : RowOk K ns M H p a) (o : Ok T M H) (hσ : σ[1]? = some (some (.ref p)))
    (k : ∀ (b : Bool) H', Ok T M H' → RowOk K ns M H' p a → (∀ b, b ≠ p → H' b = H b) → Q b H') : tTest (tOp rEq (tCall (spTaken K) [] E (tCons (tVar 1) (tCons (tC (.int 2)) tNil))) (tC (.int 0))) σ H Q := by
  refine go_taken (m := 2) R o hσ (by decide) (by decide) fun t H' ht o' R' hb => ?_
  exact ⟨rfl, _, rfl, k _ H' o' R' hb⟩
abbrev nLaw : List Str := ["_law_script", "_law_row", "_law_span", "_law_relays_here", "_law_some", "_law_table", "_law_above", "_law_below", "_law_high", "_law_low", "_law_pairs", "_law_gaps", "_law_least", "_law_memory_here", "_law_relay", "_law_one"]
theorem scLaw : FnScope nLaw ["_law_script"] (defScope sLaw) := ⟨rfl, rfl, rfl, by decide +kernel, rfl, by decide +kernel, by decide +kernel⟩
def spLaw (K : PySem.W.Frag) (T : List Addr) : Sp := fun vs H Q _ => ∃ (a : Addr) (ns : List Int), vs = [.ref a] ∧ SqL K H a (ns.map V.int) ∧ Tabs T H ∧ ∀ H', Q (.bl true) H'
abbrev tDrawn (K : PySem.W.Frag) : TT := tTest (tOp rEq (tCall (spTaken K) [] E0 (tCons (tVar 1) (tCons (tC (.int 2)) tNil))) (tC (.int 0)))
abbrev tNotAt (K : PySem.W.Frag) (i : Nat) : TT := tTest (tOp (rInL K true) (tVar 15) (tDGet (tVar 5) (tVar i)))
abbrev tNotSome (K : PySem.W.Frag) : TT := tTest (tOp (rInL K true) (tVar 15) (tVar 4))
abbrev tDiff (K : PySem.W.Frag) : TT := tTest (tOp rNe (tOp (rInL K false) (tVar 15) (tVar 4)) (tOp (rInL K false) (tVar 15) (tDGet (tVar 5) (tVar 13))))
abbrev tLeast : TT := tTest (tOp rEq (tDGet (tVar 11) (tVar 13)) (tVar 12))
abbrev tAbv (K : PySem.W.Frag) : TT := tTest (tOp (rEqD K) (tLc (iList K (tVar 4)) (gName 15) (tNotAt K 13) (tVar 15) [15]) (tLst tNil))
abbrev tBlw (K : PySem.W.Frag) : TT := tTest (tOp (rEqD K) (tLc (iList K (tDGet (tVar 5) (tVar 13))) (gName 15) (tNotSome K) (tVar 15) [15]) (tLst tNil))
/-- the relays drawn -/
theorem go_some {ns : List Int} {M H : Hp} {p a : Addr} {va vn vr : V} {n : Nat} {Q : VK} (h5 : n ∈ [1, 2, 3, 4, 5]) (R : RowOk K ns M H p a) (o : Ok T M H) (dr : De M vr (.list ((rels n).map relD)))
    (k : ∀ v M2 H2 ks, List.Sublist ks (rels n) → Same M M2 → Ok T M2 H2 → RowOk K ns M2 H2 p a → De M2 v (.list (ks.map relD)) → Q v H2) :
    tLc (iList K (tVar 3)) (gName 15) (tDrawn K) (tVar 15) [15] [some va, some (.ref p), some vn, some vr, none, none, none, none, none, none, none, none, none, none, none, none] H Q := by
  refine ei_list (ed_var rfl dr) M H (Same.refl _) o _ fun M2 H2 J G Y e2 W hG hY D hD => ?_
  have R2 := R.ex e2
  have o2 := o.ex e2
  have ne : D ≠ p := R2.ne (xs := []) hD
  have hMD : M2 D = none := Same.no o2.s hD
  refine lc_it W (fun i H' => ∃ M' acc ks, List.Sublist ks ((rels n).take i) ∧ Same M2 M' ∧ Ok T M' H' ∧ RowOk K ns M' H' p a ∧ H' D = some (.lst acc) ∧ M' D = none ∧ DeAll M' acc (ks.map relD))
    ⟨M2, [], [], List.nil_sublist _, Same.refl _, o2.mut hMD (notab_none hD), R2.put ne, upd_same, hMD, .nil⟩ (fun i H' _ ⟨M', acc, ks, _, s', o', _⟩ => hG H' (s'.trans o'.s)) ?_ ?_
  · rintro i x H' H4 hi ⟨M', acc, ks, hk, s', o', R', hD', hMD', hv⟩ y
    obtain ⟨M4, d, e4, hd, dx⟩ := hY i M' H' x H4 s' o'.s hi y
    obtain ⟨r, hr, rfl⟩ : ∃ r, (rels n)[i]? = some r ∧ d = relD r := by
      rw [List.getElem?_map] at hd
      obtain ⟨r, h1, h2⟩ := Option.map_eq_some_iff.mp hd
      exact ⟨r, h1, h2.symm⟩
    have o4 := o'.ex e4
    have R4 := R'.ex e4
    have hD4 : H4 D = some (.lst acc) := e4.h.lst hD'
    have hMD4 : M4 D = none := e4.out hMD' (by rw [hD']; simp)
    have etake : (rels n).take (i + 1) = (rels n).take i ++ [r] := by rw [List.take_add_one, hr]; rfl
    have hlen : ks.length ≤ 81 := by
      have h1 := hk.length_le
      have h2 : ((rels n).take i).length ≤ (rels n).length := by rw [List.length_take]; omega
      have h3 := rels_len n
      have h4 : n ≤ 9 := by
        have : ∀ m ∈ [1, 2, 3, 4, 5], m ≤ 9 := by decide
        exact this n h5
      have h5 : n * n ≤ 9 * 9 := Nat.mul_le_mul h4 h4
      omega
    refine ⟨rfl, ?_⟩
    refine go_coin R4 o4 rfl fun b H5 o5 R5 hb => ?_
    have hD5 : H5 D = some (.lst acc) := by rw [hb D ne]; exact hD4
    cases b with
    | false =>
      show ∃ M' acc ks, _
      refine ⟨M4, acc, ks, ?_, s'.trans e4.m, o5, R5, hD5, hMD4, hv.mono e4.m⟩
      rw [etake]
      exact hk.trans (List.sublist_append_left _ _)
    | true =>
      refine ⟨_, rfl, acc, hD5, ?_, M4, acc ++ [x], ks ++ [r], ?_, s'.trans e4.m, o5.mut hMD4 (notab_lst hD5), R5.put ne, upd_same, hMD4, ?_⟩
      · have := hv.len
        rw [List.length_map] at this
        rw [this]
        exact Nat.lt_of_le_of_lt hlen (by decide)
      · rw [etake]
        exact hk.append (List.Sublist.refl _)
      · rw [List.map_append]
        exact (hv.mono e4.m).snoc dx
  · rintro H' ⟨M', acc, ks, hk, s', o', R', hD', hMD', hv⟩
    rw [List.length_map, List.take_length] at hk
    have s9 : Same M' (upd M' D (.lst acc)) := Same.new hMD'
    refine k (.ref D) (upd M' D (.lst acc)) H' ks hk ((e2.m.trans s').trans s9) ⟨fun b ob h => ?_, o'.t, fun P hP => ?_⟩ (R'.know ne hMD') (.lst upd_same (hv.mono s9))
    · by_cases q : b = D
      · rw [q, upd_same] at h
        rw [q, hD']
        exact h
      · rw [upd_ne q] at h
        exact o'.s b ob h
    · have n : P ≠ D := fun z => notab_lst hD' (z ▸ o'.t P hP)
      rw [upd_ne n]
      exact o'.n P hP
/-! ### the readings of law, on data -/
/-- the table of the memories: what is on -/
structure Tbl (n : Nat) (kvs : List (L2.Key × V)) (M : Hp) : Prop where
  keys : kvs.map Prod.fst = (mems n).map fun m => (Sum.inr (S m) : L2.Key)
  vals : ∀ m ∈ mems n, ∃ v, valV kvs (.inr (S m)) = some v ∧ De M v (.list ((onM m).map relD))
theorem Tbl.mono {n : Nat} {kvs : List (L2.Key × V)} {M M' : Hp} (t : Tbl n kvs M) (s : Same M M') : Tbl n kvs M' := ⟨t.keys, fun m hm => by
  obtain ⟨v, h1, h2⟩ := t.vals m hm
  exact ⟨v, h1, h2.mono s⟩⟩
theorem Tbl.put {n : Nat} {kvs : List (L2.Key × V)} {M : Hp} {a : Addr} {u w : HO} (t : Tbl n kvs M) (ha : M a = some u) (hu : Odd u) : Tbl n kvs (upd M a w) := ⟨t.keys, fun m hm => by
  obtain ⟨v, h1, h2⟩ := t.vals m hm
  exact ⟨v, h1, h2.put ha hu⟩⟩
theorem Rd.mono {M M' : Hp} {a : Addr} {u : HO} (h : Rd M a u) (s : Same M M') : Rd M' a u := by
  rcases h with h | ⟨o, h⟩
  · exact .inl (s _ _ h)
  · exact .inr ⟨o, s _ _ h⟩
theorem ed_at {σ : L2.St} {M : Hp} {t : Addr} {n j : Nat} {kvs : List (L2.Key × V)} {m : List Nat} {v : V} (h5 : σ[5]? = some (some (.ref t))) (hd : Rd M t (.dK kvs)) (tb : Tbl n kvs M) (hm : m ∈ mems n) (hj : σ[j]? = some (some v)) (dv : De M v (strD m)) :
    Ed T (tDGet (tVar 5) (tVar j)) σ M (.list ((onM m).map relD)) := by
  obtain ⟨w, h1, h2⟩ := tb.vals m hm
  exact ed_dget h5 hd (ed_var hj dv) h1 h2
theorem eqv_nil (xs : List PyData) : PyData.eqv (.list xs) (.list []) = xs.isEmpty := by
  cases xs <;> simp [PyData.eqv, PyData.eqvAll]
theorem rest_nil (xs ys : List Rel) : PyData.eqv (.list ((xs.filter fun r => !decide (r ∈ ys)).map relD)) (.list []) = xs.all fun r => decide (r ∈ ys) := by
  rw [eqv_nil, Bool.eq_iff_iff, List.isEmpty_iff, List.map_eq_nil_iff, List.filter_eq_nil_iff, List.all_eq_true]
  simp
/-- what of xs is not in ys -/
theorem ed_rest {σ : L2.St} {M : Hp} {te ty : TE} {xs ys : List Rel} (hσ : 15 < σ.length) (h1 : Ed T te σ M (.list (xs.map relD))) (hl : xs.length ≤ 1000) (h2 : ∀ x M', Same M M' → Ed T ty ((σ.set 15 none).set 15 (some x)) M' (.list (ys.map relD))) :
    Ed T (tLc (iList K te) (gName 15) (tTest (tOp (rInL K true) (tVar 15) ty)) (tVar 15) [15]) σ M (.list ((xs.filter fun r => !decide (r ∈ ys)).map relD)) := by
  refine ed_is (ed_lc (p := notIn ys) (f := id) (ei_list h1) (by rw [List.length_map]; omega) fun d hd x M5 s5 dx => ?_) (congrArg PyData.list (notIn_filter xs ys))
  obtain ⟨r, _, rfl⟩ := List.mem_map.mp hd
  have h15 : ((σ.set 15 none).set 15 (some x))[15]? = some (some x) := List.getElem?_set_self (by rw [List.length_set]; exact hσ)
  refine ⟨(σ.set 15 none).set 15 (some x), fun H1 Q s1 qq => qq, ?_, et_test (ed_op (ed_var h15 dx) (h2 x M5 s5) (rd_niLd (relD_shaped r) (relDs_shapedL ys))), fun _ => ed_var h15 dx⟩
  show ((σ.set 15 none).set 15 (some x)).set 15 none = σ.set 15 none
  rw [List.set_set, List.set_set]
theorem et_eq {σ : L2.St} {M : Hp} {te ty : TE} {xs ys : List Rel} (hσ : 15 < σ.length) (h1 : Ed T te σ M (.list (xs.map relD))) (hl : xs.length ≤ 1000) (h2 : ∀ x M', Same M M' → Ed T ty ((σ.set 15 none).set 15 (some x)) M' (.list (ys.map relD))) :
    EdT T (tTest (tOp (rEqD K) (tLc (iList K te) (gName 15) (tTest (tOp (rInL K true) (tVar 15) ty)) (tVar 15) [15]) (tLst tNil))) σ M (xs.all fun r => decide (r ∈ ys)) :=
  et_is (et_test (ed_op (ed_rest hσ h1 hl h2) (ed_lst ea_nil (by decide)) (rd_eqD (relDs_shapedL _) (relDs_shapedL [])))) (rest_nil xs ys)
theorem et_ne {σ : L2.St} {M : Hp} {te ty : TE} {xs ys : List Rel} (hσ : 15 < σ.length) (h1 : Ed T te σ M (.list (xs.map relD))) (hl : xs.length ≤ 1000) (h2 : ∀ x M', Same M M' → Ed T ty ((σ.set 15 none).set 15 (some x)) M' (.list (ys.map relD))) (h : ∀ r ∈ xs, r ∈ ys) :
    EdT T (tTest (tOp (rNeD K) (tLc (iList K te) (gName 15) (tTest (tOp (rInL K true) (tVar 15) ty)) (tVar 15) [15]) (tLst tNil))) σ M false :=
  et_is (et_test (ed_op (ed_rest hσ h1 hl h2) (ed_lst ea_nil (by decide)) (rd_neD (relDs_shapedL _) (relDs_shapedL [])))) (by
    rw [rest_nil]
    have : (xs.all fun r => decide (r ∈ ys)) = true := List.all_eq_true.mpr fun r hr => decide_eq_true (h r hr)
    rw [this]
    rfl)
def onStr (f : List Nat → Bool) : PyData → Bool
  | .str z => f z.cps.toList
  | _ => false
theorem str_filter (f : List Nat → Bool) (ms : List (List Nat)) : ((ms.map strD).filter (onStr f)).map id = (ms.filter f).map strD := by
  rw [List.map_id, List.filter_map]
  rfl
/-- the memories of a table that answer -/
theorem ed_keys {σ : L2.St} {M : Hp} {t : Addr} {od : Obj} {n : Nat} {kvs : List (L2.Key × V)} {tt : TT} (f : List Nat → Bool) (hn : n ≤ 9) (hσ : 13 < σ.length) (h5 : σ[5]? = some (some (.ref t))) (hd : M t = some (.frz od (.dK kvs))) (tb : Tbl n kvs M)
    (h : ∀ m ∈ mems n, ∀ x M', Same M M' → De M' x (strD m) → EdT T tt ((σ.set 13 none).set 13 (some x)) M' (f m)) :
    Ed T (tLc (iKeys (tVar 5)) (gName 13) tt (tVar 13) [13]) σ M (.list (((mems n).filter f).map strD)) := by
  refine ed_is (ed_lc (p := onStr f) (f := id) (ei_keys h5 hd tb.keys) ?_ fun d hd x M5 s5 dx => ?_) (congrArg PyData.list (str_filter f (mems n)))
  · rw [List.length_map, mems_count]
    exact Nat.lt_of_le_of_lt (Nat.pow_le_pow_right (by decide) hn) (by decide)
  obtain ⟨m, hm, rfl⟩ := List.mem_map.mp hd
  have h13 : ((σ.set 13 none).set 13 (some x))[13]? = some (some x) := List.getElem?_set_self (by rw [List.length_set]; exact hσ)
  refine ⟨(σ.set 13 none).set 13 (some x), fun H1 Q s1 qq => qq, ?_, h m hm x M5 s5 dx, fun _ => ed_var h13 dx⟩
  show ((σ.set 13 none).set 13 (some x)).set 13 none = σ.set 13 none
  rw [List.set_set, List.set_set]
theorem isAbove_eq (rs : List Rel) (m : List Nat) : isAbove rs m = rs.all fun r => decide (r ∈ onM m) := rfl
theorem isBelow_eq (rs : List Rel) (m : List Nat) : isBelow rs m = (onM m).all fun r => decide (r ∈ rs) := rfl
/-- the relays of which one is in rs, and not in on, or the other way -/
def diffD (rs on : List Rel) (d : PyData) : Bool := !decide (memD (rs.map relD) d = memD (on.map relD) d)
theorem diff_filter (rs on xs : List Rel) : ((xs.map relD).filter (diffD rs on)).map id = (xs.filter fun r => decide (r ∈ rs) != decide (r ∈ on)).map relD := by
  rw [List.map_id, List.filter_map]
  congr 1
  apply List.filter_congr
  intro r _
  show (!decide (memD (rs.map relD) (relD r) = memD (on.map relD) (relD r))) = _
  rw [memD_rel, memD_rel]
  cases decide (r ∈ rs) <;> cases decide (r ∈ on) <;> rfl
theorem ed_diff {σ : L2.St} {M : Hp} {ty : TE} {xs rs on : List Rel} {v4 v3 : V} (hσ : 15 < σ.length) (h3 : σ[3]? = some (some v3)) (d3 : De M v3 (.list (xs.map relD))) (hl : xs.length ≤ 1000)
    (h4 : σ[4]? = some (some v4)) (d4 : De M v4 (.list (rs.map relD))) (h2 : ∀ x M', Same M M' → Ed T ty ((σ.set 15 none).set 15 (some x)) M' (.list (on.map relD))) :
    Ed T (tLc (iList K (tVar 3)) (gName 15) (tTest (tOp rNe (tOp (rInL K false) (tVar 15) (tVar 4)) (tOp (rInL K false) (tVar 15) ty))) (tVar 15) [15]) σ M (.list ((xs.filter fun r => decide (r ∈ rs) != decide (r ∈ on)).map relD)) := by
  refine ed_is (ed_lc (p := diffD rs on) (f := id) (ei_list (ed_var h3 d3)) (by rw [List.length_map]; omega) fun d hd x M5 s5 dx => ?_) (congrArg PyData.list (diff_filter rs on xs))
  obtain ⟨r, _, rfl⟩ := List.mem_map.mp hd
  have h15 : ((σ.set 15 none).set 15 (some x))[15]? = some (some x) := List.getElem?_set_self (by rw [List.length_set]; exact hσ)
  have h4' : ((σ.set 15 none).set 15 (some x))[4]? = some (some v4) := by
    rw [List.getElem?_set_ne (by decide), List.getElem?_set_ne (by decide)]
    exact h4
  refine ⟨(σ.set 15 none).set 15 (some x), fun H1 Q s1 qq => qq, ?_, et_test (ed_op (ed_op (ed_var h15 dx) (ed_var h4' (d4.mono s5)) (rd_inLd (relD_shaped r) (relDs_shapedL rs))) (ed_op (ed_var h15 dx) (h2 x M5 s5) (rd_inLd (relD_shaped r) (relDs_shapedL on))) rd_neB), fun _ => ed_var h15 dx⟩
  show ((σ.set 15 none).set 15 (some x)).set 15 none = σ.set 15 none
  rw [List.set_set, List.set_set]
end
end Rb

set_option Elab.async false
set_option linter.all false
set_option maxRecDepth 100000
set_option maxHeartbeats 4000000
/-! ### steps of law -/
namespace Rb
open PySem L2 PySem.Spec PyProof.Rows
section
variable {T : List Addr} {σ : L2.St} {M H : Hp} {D : Ends} {tz : TS} {K : PySem.W.Frag}
theorem go_rev {b : Bool} {v : V} {ks : List Rel} {Q : VK} (o : Ok T M H) (h : σ[4]? = some (some v)) (dv : De M v (.list (ks.map relD))) (k : ∀ v' M' H' rs, (rs = ks ∨ rs = ks.reverse) → Same M M' → Ok T M' H' → De M' v' (.list (rs.map relD)) → Q v' H') :
    if b = true then tRevL K (tVar 4) σ H Q else tVar 4 σ H Q := by
  cases b with
  | true =>
    show tRevL K (tVar 4) σ H Q
    refine (ed_revL (T := T) (ed_var h dv)).go o fun v' M' H' e' o' dv' => k v' M' H' ks.reverse (.inr rfl) e'.m o' ?_
    rw [List.map_reverse]
    exact dv'
  | false => exact ⟨v, h, k v M H ks (.inl rfl) (Same.refl _) o dv⟩
theorem go_dict {te : TE} {i n : Nat} (h : Ed T te σ M (.list ((mems n).map fun m => .tuple [strD m, .list ((onM m).map relD)]))) (o : Ok T M H) (hn : n ∈ [1, 2, 3, 4, 5])
    (k : ∀ t kvs M2 H2, Same M M2 → Ok T M2 H2 → M2 t = some (.dK kvs) → Tbl n kvs M2 → tz D (σ.set i (some (.ref t))) H2) :
    tSeq (tAsg (tCB (fun xs H Q => ∃ (a : Addr) (ps : List Addr) (kvs : List (L2.Key × V)), xs = [.ref a] ∧ SqL K H a (ps.map V.ref) ∧ Paired (fun p kv => SqT K H p [kV kv.1, kv.2]) ps kvs ∧ ∀ p, H p = none → Q (.ref p) (upd H p (.dK (mergeK [] kvs)))) (tCons te tNil)) (gName i)) tz D σ H := by
  refine h.go o fun v M2 H2 e2 o2 dv => ?_
  obtain ⟨a, xs, rfl, ha, hx⟩ := dv.lst_of
  obtain ⟨ps, kvs, rfl, hp, hk, hv⟩ := pairs_dict (K := K) (fun m => .list ((onM m).map relD)) hx
  refine ⟨a, ps, kvs, rfl, SqL.of (o2.s _ _ ha), Paired.mapP hp fun q kv z => ?_, fun t ht => ?_⟩
  · rcases z with (z | ⟨ob, z⟩) | z
    · exact .inl (.inl (o2.s _ _ z))
    · exact .inl (.inr ⟨ob, o2.s _ _ z⟩)
    · exact .inr z
  · have e : mergeK [] kvs = kvs := by
      have := merge_new kvs [] (by rw [List.nil_append, hk]; exact keys_nodup (mems_nodup n hn))
      rw [this, List.nil_append]
    rw [e]
    have en : Ex M2 H2 (upd M2 t (.dK kvs)) (upd H2 t (.dK kvs)) := Ex.new o2.s ht
    refine k t kvs (upd M2 t (.dK kvs)) (upd H2 t (.dK kvs)) (e2.m.trans en.m) (o2.ex en) upd_same ⟨hk, fun m hm => ?_⟩
    obtain ⟨v, h1, h2⟩ := hv m hm
    exact ⟨v, h1, h2.mono en.m⟩
theorem go_pair {ta tb : TE} {i j c : Nat} {d1 d2 : PyData} (h1 : Ed T ta σ M d1) (h2 : Ed T tb σ M d2) (o : Ok T M H) (hc : 2 = c)
    (k : ∀ v w M2 H2, Same M M2 → Ok T M2 H2 → De M2 v d1 → De M2 w d2 → tz D ((σ.set i (some v)).set j (some w)) H2) :
    tSeq (tAsg (tTup (tCons ta (tCons tb tNil))) (gTup K c (gCons (gName i) (gCons (gName j) gNil)))) tz D σ H := by
  show tTup (tCons ta (tCons tb tNil)) σ H fun x H1 => gTup K c (gCons (gName i) (gCons (gName j) gNil)) x σ H1 fun σ' H' => tz D σ' H'
  refine (ed_tup (ea_cons h1 (ea_cons h2 ea_nil)) (by show 2 ≤ 100000; decide)).go o fun t M2 H2 e2 o2 dv => ?_
  obtain ⟨a, xs, rfl, ha, hx⟩ := dv.tup_of
  obtain ⟨v, w, rfl, dv1, dw⟩ := hx.two
  exact ⟨a, [v, w], rfl, SqT.of (o2.s _ _ ha), hc, v, [w], rfl, w, [], rfl, rfl, k v w M2 H2 e2.m o2 dv1 dw⟩
theorem go_dput {tv : TE} {g : Addr} {kvs : List (L2.Key × V)} {m : List Nat} {i : Int} (h : Ed T tv σ M (.int i)) (o : Ok T M H) (h11 : σ[11]? = some (some (.ref g))) (h13 : σ[13]? = some (some (.str (S m)))) (hl : kvs.length < sizeLine) (hv : valV kvs (keyS m) = none) (hg : H g = some (.dK kvs))
    (k : ∀ M2 H2, Ex M H M2 H2 → Ok T M2 H2 → D.nx σ (upd H2 g (.dK (kvs ++ [(keyS m, .int i)])))) : sDPut (tVar 11) (tVar 13) tv D σ H := by
  refine h.go o fun v M2 H2 e2 o2 dv => ?_
  cases dv.int_of
  refine ⟨_, h11, _, h13, g, upd H2 g (.dK (kvs ++ [(keyS m, .int i)])), rfl, ?_, k M2 H2 e2 o2⟩
  have hg2 : H2 g = some (.dK kvs) := e2.h.keep hg (fun _ e => by cases e)
  have := DPut.k (k := keyS m) (v := .int i) hg2 hl
  rw [putK_new _ hv] at this
  exact this
theorem go_asgX {te : TE} {i : Nat} (h : te σ H fun v H1 => tz D (σ.set i (some v)) H1) : tSeq (tAsg te (gName i)) tz D σ H := h
theorem go_new {i : Nat} (k : ∀ g, H g = none → tz D (σ.set i (some (.ref g))) (upd H g (.dK []))) : tSeq (tAsg tDNewK (gName i)) tz D σ H := k
end
theorem upd_comm {H : Hp} {a b : Addr} {u w : HO} (n : a ≠ b) : upd (upd H a u) b w = upd (upd H b w) a u := by
  funext c
  by_cases q : c = a
  · subst q
    rw [upd_ne n, upd_same, upd_same]
  · by_cases z : c = b
    · subst z
      rw [upd_same, upd_ne q, upd_same]
    · rw [upd_ne z, upd_ne q, upd_ne q, upd_ne z]
def gapD (rs : List Rel) : PyData → PyData
  | .str z => natD (gapM (onM z.cps.toList) rs)
  | d => d
theorem gaps_list (rs : List Rel) (ms : List (List Nat)) : ((ms.map strD).filter fun _ => true).map (gapD rs) = (ms.map fun m => gapM (onM m) rs).map natD := by
  rw [filt_true, List.map_map, List.map_map]
  rfl
abbrev gapK (rs : List Rel) (m : List Nat) : L2.Key × V := (keyS m, .int ((gapM (onM m) rs : Nat) : Int))
theorem gap_keys (rs : List Rel) (ms : List (List Nat)) : (ms.map (gapK rs)).map Prod.fst = ms.map fun m => (Sum.inr (S m) : L2.Key) := by
  rw [List.map_map]
  rfl
/-- the gaps, and the least of them -/
theorem ed_least {T : List Addr} {σ : L2.St} {M : Hp} {K : PySem.W.Frag} {g : Addr} {n : Nat} {rs : List Rel} (hn : n ≤ 9) (hσ : 13 < σ.length) (h11 : σ[11]? = some (some (.ref g))) (hg : M g = some (.dK ((mems n).map (gapK rs)))) :
    Ed T (tCB (rMin K) (tCons (tLockE (tLc (iKeys (tVar 11)) (gName 13) tYes (tDGet (tVar 11) (tVar 13)) [13])) tNil)) σ M (natD (nearLeast n rs)) := by
  refine ed_cb (ea_cons (ed_lock hg trivial (odd_dK _) fun od => ed_is (ed_lc (p := fun _ => true) (f := gapD rs) (ei_keys h11 upd_same (gap_keys rs (mems n))) ?_ fun d hd x M5 s5 dx => ?_) (congrArg PyData.list (gaps_list rs (mems n)))) ea_nil) (rdc_minN (near_low n rs).1 (near_low n rs).2)
  · rw [List.length_map, mems_count]
    exact Nat.lt_of_le_of_lt (Nat.pow_le_pow_right (by decide) hn) (by decide)
  · obtain ⟨m, hm, rfl⟩ := List.mem_map.mp hd
    have h13 : ((σ.set 13 none).set 13 (some x))[13]? = some (some x) := List.getElem?_set_self (by rw [List.length_set]; exact hσ)
    have h11' : ((σ.set 13 none).set 13 (some x))[11]? = some (some (.ref g)) := by
      rw [List.getElem?_set_ne (by decide), List.getElem?_set_ne (by decide)]
      exact h11
    refine ⟨(σ.set 13 none).set 13 (some x), fun H1 Q s1 qq => qq, ?_, et_yes, fun _ => ed_dget h11' (.inr ⟨od, s5 _ _ upd_same⟩) (ed_var h13 dx) (val_of (fun m => V.int ((gapM (onM m) rs : Nat) : Int)) hm) (.int _)⟩
    show ((σ.set 13 none).set 13 (some x)).set 13 none = σ.set 13 none
    rw [List.set_set, List.set_set]
/-- the memories of the least gap -/
theorem ed_near {T : List Addr} {σ : L2.St} {M : Hp} {K : PySem.W.Frag} {te : TE} {g : Addr} {n : Nat} {rs : List Rel} {v12 : V} (hn : n ≤ 9) (hσ : 13 < σ.length) (h11 : σ[11]? = some (some (.ref g))) (hg : M g = some (.dK ((mems n).map (gapK rs))))
    (h12 : σ[12]? = some (some v12)) (d12 : De M v12 (natD (nearLeast n rs))) (hi : Ed T te σ M (.list ((mems n).map strD))) :
    Ed T (tLc (iList K te) (gName 13) (tTest (tOp rEq (tDGet (tVar 11) (tVar 13)) (tVar 12))) (tVar 13) [13]) σ M (.list ((nearM n rs).map strD)) := by
  refine ed_is (ed_lc (p := onStr fun m => decide (gapM (onM m) rs = nearLeast n rs)) (f := id) (ei_list hi) ?_ fun d hd x M5 s5 dx => ?_) (congrArg PyData.list (str_filter _ (mems n)))
  · rw [List.length_map, mems_count]
    exact Nat.lt_of_le_of_lt (Nat.pow_le_pow_right (by decide) hn) (by decide)
  · obtain ⟨m, hm, rfl⟩ := List.mem_map.mp hd
    have h13 : ((σ.set 13 none).set 13 (some x))[13]? = some (some x) := List.getElem?_set_self (by rw [List.length_set]; exact hσ)
    have h11' : ((σ.set 13 none).set 13 (some x))[11]? = some (some (.ref g)) := by
      rw [List.getElem?_set_ne (by decide), List.getElem?_set_ne (by decide)]
      exact h11
    have h12' : ((σ.set 13 none).set 13 (some x))[12]? = some (some v12) := by
      rw [List.getElem?_set_ne (by decide), List.getElem?_set_ne (by decide)]
      exact h12
    refine ⟨(σ.set 13 none).set 13 (some x), fun H1 Q s1 qq => qq, ?_, et_is (et_test (ed_op (ed_dget h11' (.inl (s5 _ _ hg)) (ed_var h13 dx) (val_of (fun m => V.int ((gapM (onM m) rs : Nat) : Int)) hm) (.int _)) (ed_var h12' (d12.mono s5)) rd_eqI)) ?_, fun _ => ed_var h13 dx⟩
    · show ((σ.set 13 none).set 13 (some x)).set 13 none = σ.set 13 none
      rw [List.set_set, List.set_set]
    · show decide (((gapM (onM m) rs : Nat) : Int) = ((nearLeast n rs : Nat) : Int)) = decide (gapM (onM m) rs = nearLeast n rs)
      rw [Bool.eq_iff_iff, decide_eq_true_eq, decide_eq_true_eq]
      omega
/-! ### equal data that is told to be alike -/
theorem ok_str (k : Nat) (m : List Nat) : okD k (strD m) := by cases k <;> simp [okD, strD]
theorem ok_nat (k m : Nat) : okD k (natD m) := by cases k <;> simp [okD, natD]
theorem ok_relD (k : Nat) (r : Rel) : okD (k + 1) (relD r) := by
  refine ⟨by show 2 ≤ 10000; decide, fun d hd => ?_⟩
  rcases List.mem_cons.mp hd with e | hd
  · rw [e]; exact ok_nat k r.1
  · rcases List.mem_cons.mp hd with e | hd
    · rw [e]; exact ok_nat k r.2
    · cases hd
theorem ok_prD (k : Nat) (m : List Nat) (r : Rel) : okD (k + 2) (prD m r) := by
  refine ⟨by show 2 ≤ 10000; decide, fun d hd => ?_⟩
  rcases List.mem_cons.mp hd with e | hd
  · rw [e]; exact ok_str (k + 1) m
  · rcases List.mem_cons.mp hd with e | hd
    · rw [e]; exact ok_relD k r
    · cases hd
theorem ok_prs {n : Nat} (hn : n ≤ 9) : okD 3 (.tuple (((rels n).map fun r => prD (pillarM n r) r).mergeSort (PySem.W.dataLe false id))) := by
  refine ⟨?_, fun d hd => ?_⟩
  · rw [List.length_mergeSort, List.length_map]
    have h1 := rels_len n
    have h2 : n * n ≤ 9 * 9 := Nat.mul_le_mul hn hn
    omega
  · obtain ⟨r, _, rfl⟩ := List.mem_map.mp (List.mem_mergeSort.mp hd)
    exact ok_prD 0 _ r
theorem ok_nears {n : Nat} (hn : n ≤ 9) (rs : List Rel) : okD 3 (.tuple [natD (nearLeast n rs), .tuple ((nearM n rs).map strD)]) := by
  refine ⟨by show 2 ≤ 10000; decide, fun d hd => ?_⟩
  rcases List.mem_cons.mp hd with e | hd
  · rw [e]; exact ok_nat 2 _
  · rcases List.mem_cons.mp hd with e | hd
    · rw [e]
      refine ⟨?_, fun d hd => ?_⟩
      · rw [List.length_map]
        have h1 := List.length_filter_le (fun m => decide (gapM (onM m) rs = nearLeast n rs)) (mems n)
        have h2 := mems_count n
        have h3 : 2 ^ n ≤ 2 ^ 9 := Nat.pow_le_pow_right (by decide) hn
        show ((mems n).filter fun m => decide (gapM (onM m) rs = nearLeast n rs)).length ≤ 10000
        omega
      · obtain ⟨m, _, rfl⟩ := List.mem_map.mp hd
        exact ok_str 1 m
    · cases hd
end Rb

set_option Elab.async false
set_option linter.all false
set_option maxRecDepth 100000
set_option maxHeartbeats 8000000
/-! ### law: the walk -/
namespace Rb
open PySem L2 PySem.Spec PyProof.Rows
def onPair : PyData → PyData
  | .str z => .tuple [.str z, .list ((onM z.cps.toList).map relD)]
  | d => d
theorem onpair_list (ms : List (List Nat)) : ((ms.map strD).filter fun _ => true).map onPair = ms.map fun m => .tuple [strD m, .list ((onM m).map relD)] := by
  rw [filt_true, List.map_map]
  rfl
section
variable {P : Program} {w : World} {K : PySem.W.Frag} {mg : Str → Option Value} {base : Heap} {T : List Addr}
theorem ok_law {f : Addr} {fd : FuncData} (F : Fun K "law" "law" sLaw f fd) (X : Txt mg)
    (FT : Fn P w K mg base "_law_taken" 1 ["_law_row", "_law_many"] (spTaken K)) (FR : Fn P w K mg base "_law_relays" 1 ["_law_span"] (spD T 1 rRels)) (FA : Fn P w K mg base "_law_all" 1 ["_law_span"] (spD T 1 rLawAll))
    (FO : Fn P w K mg base "_law_on" 1 ["_law_memory_here"] (spD T 1 rOnIn)) (FL : Fn P w K mg base "least_above" 5 ["span", "relays"] (spD T 2 rLeast)) (FG : Fn P w K mg base "greatest_below" 5 ["span", "relays"] (spD T 2 rGreat))
    (FN : Fn P w K mg base "nearest_memories" 5 ["span", "relays"] (spD T 2 rNear)) (FP : Fn P w K mg base "pillar" 3 ["span", "relay"] (spD T 2 rPillar)) (FQ : Fn P w K mg base "pillars" 3 ["span"] (spD T 1 rPillars))
    (FE : Fn P w K mg base "_law_alike" 4 ["_law_found", "_law_due"] (spD T 2 (rAlike 4))) : FnOk P w K mg base CX0 6 f fd ["_law_script"] (spLaw K T) := by
  refine F.ok scLaw (fun vs H Q E h => ?_) (fun cdv A outer s H vs Q E hr h => ?_)
  · obtain ⟨a, ns, rfl, _⟩ := h
    rfl
  obtain ⟨a, ns, rfl, hs, hT, q⟩ := h
  refine ⟨_, pss_cons (ps_set (i := 1) scLaw.nd rfl (.inr rfl) (pe_lst (pa_cons (pv 0) (pa_cons pe_int (pa_cons pe_int (pa_cons pe_int pa_nil))))))
    (pss_cons (ps_set (i := 2) scLaw.nd rfl (.inr rfl) (pe_op op_add pe_int (pe_callF FT (hr.mono (by decide)) (by rfl) (pa_cons (pv 1) (pa_cons pe_int pa_nil)))))
    (pss_cons (ps_set (i := 3) scLaw.nd rfl (.inl rfl) (pe_callF FR (hr.mono (by decide)) (by rfl) (pa_cons (pv 2) pa_nil)))
    (pss_cons (ps_set (i := 4) scLaw.nd rfl (.inr rfl) (pe_lc (own := [("_law_one", 15)]) (g := gName 15) (tt := tDrawn K) rfl scLaw.nd (pi_list (pv 3)) (blkOk_by (N := nLaw) (sc := defScope sLaw) (by decide +kernel)) (fun _ _ _ _ _ => pg_name (i := 15) scLaw.nd rfl (.inl rfl))
        (fun _ _ _ _ _ => pts_one (pt_cmpR op_eq (pe_callF FT (hr.mono (by decide)) (by rfl) (pa_cons (pv 1) (pa_cons pe_int pa_nil))) pe_int (nomark _))) (fun _ _ _ _ _ => pv 15)))
    (pss_cons (ps_set (i := 4) scLaw.nd rfl (.inr rfl) (pe_ifExp (pt_cmpR op_eq (pe_callF FT (hr.mono (by decide)) (by rfl) (pa_cons (pv 1) (pa_cons pe_int pa_nil))) pe_int (nomark _)) (pe_revL (pv 4)) (pv 4)))
    (pss_cons (ps_set (i := 5) scLaw.nd rfl (.inr rfl) (pe_callTy (call_dictP rfl) (by rfl) X.dict (by decide +kernel) (pa_cons
        (pe_lc (own := [("_law_memory_here", 13)]) (g := gName 13) rfl scLaw.nd (pi_list (pe_callF FA (hr.mono (by decide)) (by rfl) (pa_cons (pv 2) pa_nil))) (blkOk_by (N := nLaw) (sc := defScope sLaw) (by decide +kernel)) (fun _ _ _ _ _ => pg_name (i := 13) scLaw.nd rfl (.inl rfl)) (fun _ _ _ _ _ => pts_nil)
          (fun _ _ _ _ _ => pe_tup (pa_cons (pv 13) (pa_cons (pe_callF FO (hr.mono (by decide)) (by rfl) (pa_cons (pv 13) pa_nil)) pa_nil)))) pa_nil)))
    (pss_cons (ps_lock (ps_setLc (i := 6) (own := [("_law_memory_here", 13)]) (g := gName 13) (tt := tAbv K) rfl scLaw.nd rfl rfl (sw_true rfl rfl rfl (by decide +kernel)) (pi_keys (pv 5)) (blkOk_by (N := nLaw) (sc := defScope sLaw) (by decide +kernel)) (fun _ _ _ _ _ => pg_name (i := 13) scLaw.nd rfl (.inr rfl))
        (fun _ _ _ _ _ => pts_one (pt_cmpR (op_eqD hr.units) (pe_lc (own := [("_law_one", 15)]) (g := gName 15) (tt := tNotAt K 13) rfl scLaw.nd (pi_list (pv 4)) (blkOk_by (N := nLaw) (sc := relS (lcScope (stAt sLaw 6)) (defScope sLaw)) (by decide +kernel)) (fun _ _ _ _ _ => pg_name (i := 15) scLaw.nd rfl (.inl rfl))
          (fun _ _ _ _ _ => pts_one (pt_cmpR (op_niL (hu65 hr)) (pv 15) (pe_dget (hu1 hr) (pv 5) (pv 13) (fun _ _ => rfl)) rfl)) (fun _ _ _ _ _ => pv 15)) (pe_lst pa_nil) (nomark _))) (fun _ _ _ _ _ => pv 13)))
    (pss_cons (ps_lock (ps_setLc (i := 7) (own := [("_law_memory_here", 13)]) (g := gName 13) (tt := tBlw K) rfl scLaw.nd rfl rfl (sw_true rfl rfl rfl (by decide +kernel)) (pi_keys (pv 5)) (blkOk_by (N := nLaw) (sc := defScope sLaw) (by decide +kernel)) (fun _ _ _ _ _ => pg_name (i := 13) scLaw.nd rfl (.inl rfl))
        (fun _ _ _ _ _ => pts_one (pt_cmpR (op_eqD hr.units) (pe_lc (own := [("_law_one", 15)]) (g := gName 15) (tt := tNotSome K) rfl scLaw.nd (pi_list (pe_dget (hu1 hr) (pv 5) (pv 13) (fun _ _ => rfl))) (blkOk_by (N := nLaw) (sc := relS (lcScope (stAt sLaw 7)) (defScope sLaw)) (by decide +kernel)) (fun _ _ _ _ _ => pg_name (i := 15) scLaw.nd rfl (.inl rfl))
          (fun _ _ _ _ _ => pts_one (pt_cmpR (op_niL (hu65 hr)) (pv 15) (pv 4) rfl)) (fun _ _ _ _ _ => pv 15)) (pe_lst pa_nil) (nomark _))) (fun _ _ _ _ _ => pv 13)))
    (pss_cons (ps_asg (pe_tup (pa_cons (pe_callF FL hr (by rfl) (pa_cons (pv 2) (pa_cons (pe_callTy call_tuple_of (by rfl) X.tuple (by decide +kernel) (pa_cons (pv 4) pa_nil)) pa_nil)))
        (pa_cons (pe_callF FG hr (by rfl) (pa_cons (pv 2) (pa_cons (pe_callTy call_tuple_of (by rfl) X.tuple (by decide +kernel) (pa_cons (pv 4) pa_nil)) pa_nil))) pa_nil)))
        (pg_tup rfl (pgs_cons (pg_name (i := 8) scLaw.nd rfl (.inl rfl)) (pgs_cons (pg_name (i := 9) scLaw.nd rfl (.inr rfl)) pgs_nil))))
    (pss_cons (ps_if (PW.pt (pw_or (pt_cmpR (op_niL (hu65 hr)) (pv 8) (pv 6) rfl) (pw_or1 (pt_cmpR (op_niL (hu65 hr)) (pv 9) (pv 7) rfl)))) (pss_one ps_never) pss_nil)
    (pss_cons (ps_for PassesOwn.never rfl (pi_list (pv 6)) (pg_name (i := 13) scLaw.nd rfl (.inr rfl)) (pss_one (ps_if (pt_cmpR (op_neD hr.units)
        (pe_lc (own := [("_law_one", 15)]) (g := gName 15) (tt := tNotAt K 13) rfl scLaw.nd (pi_list (pe_dget (hu1 hr) (pv 5) (pv 8) (fun _ _ => rfl))) (blkOk_by (N := nLaw) (sc := defScope sLaw) (by decide +kernel)) (fun _ _ _ _ _ => pg_name (i := 15) scLaw.nd rfl (.inl rfl))
          (fun _ _ _ _ _ => pts_one (pt_cmpR (op_niL (hu65 hr)) (pv 15) (pe_dget (hu1 hr) (pv 5) (pv 13) (fun _ _ => rfl)) rfl)) (fun _ _ _ _ _ => pv 15)) (pe_lst pa_nil) (nomark _)) (pss_one ps_never) pss_nil)))
    (pss_cons (ps_for PassesOwn.never rfl (pi_list (pv 7)) (pg_name (i := 13) scLaw.nd rfl (.inr rfl)) (pss_one (ps_if (pt_cmpR (op_neD hr.units)
        (pe_lc (own := [("_law_one", 15)]) (g := gName 15) (tt := tNotAt K 9) rfl scLaw.nd (pi_list (pe_dget (hu1 hr) (pv 5) (pv 13) (fun _ _ => rfl))) (blkOk_by (N := nLaw) (sc := defScope sLaw) (by decide +kernel)) (fun _ _ _ _ _ => pg_name (i := 15) scLaw.nd rfl (.inl rfl))
          (fun _ _ _ _ _ => pts_one (pt_cmpR (op_niL (hu65 hr)) (pv 15) (pe_dget (hu1 hr) (pv 5) (pv 9) (fun _ _ => rfl)) rfl)) (fun _ _ _ _ _ => pv 15)) (pe_lst pa_nil) (nomark _)) (pss_one ps_never) pss_nil)))
    (pss_cons (ps_for PassesOwn.never rfl (pi_list (pv 3)) (pg_name (i := 14) scLaw.nd rfl (.inl rfl)) (pss_one (ps_if (pt_not (pt_val (pe_callF FE (hr.mono (by decide)) (by rfl) (pa_cons (pe_callF FP (hr.mono (by decide)) (by rfl) (pa_cons (pv 2) (pa_cons (pv 14) pa_nil)))
        (pa_cons (pe_callF FL hr (by rfl) (pa_cons (pv 2) (pa_cons (pe_tup (pa_cons (pv 14) pa_nil)) pa_nil))) pa_nil))))) (pss_one ps_never) pss_nil)))
    (pss_cons (ps_set (i := 10) scLaw.nd rfl (.inl rfl) (pe_callTy call_tuple_of (by rfl) X.tuple (by decide +kernel) (pa_cons (pe_callB (cr_sortD (hu70 hr)) (by rfl) X.sorted (by decide +kernel) (pa_cons
        (pe_lc (own := [("_law_relay", 14)]) (g := gName 14) rfl scLaw.nd (pi_list (pv 3)) (blkOk_by (N := nLaw) (sc := defScope sLaw) (by decide +kernel)) (fun _ _ _ _ _ => pg_name (i := 14) scLaw.nd rfl (.inl rfl)) (fun _ _ _ _ _ => pts_nil)
          (fun _ _ _ _ _ => pe_tup (pa_cons (pe_callF FL hr (by rfl) (pa_cons (pv 2) (pa_cons (pe_tup (pa_cons (pv 14) pa_nil)) pa_nil))) (pa_cons (pv 14) pa_nil)))) pa_nil)) pa_nil)))
    (pss_cons (ps_if (pt_not (pt_val (pe_callF FE (hr.mono (by decide)) (by rfl) (pa_cons (pe_callF FQ (hr.mono (by decide)) (by rfl) (pa_cons (pv 2) pa_nil)) (pa_cons (pv 10) pa_nil))))) (pss_one ps_never) pss_nil)
    (pss_cons (ps_set (i := 11) scLaw.nd rfl (.inr rfl) pe_dnewK)
    (pss_cons (ps_lock (ps_for PassesOwn.never rfl (pi_keys (pv 5)) (pg_name (i := 13) scLaw.nd rfl (.inr rfl)) (pss_one (ps_dput (hu1 hr) (pv 11) (pv 13) (pe_callB call_len_seq (by rfl) X.len PySem.boot_len (pa_cons
        (pe_lc (own := [("_law_one", 15)]) (g := gName 15) (tt := tDiff K) rfl scLaw.nd (pi_list (pv 3)) (blkOk_by (N := nLaw) (sc := defScope sLaw) (by decide +kernel)) (fun _ _ _ _ _ => pg_name (i := 15) scLaw.nd rfl (.inl rfl))
          (fun _ _ _ _ _ => pts_one (pt_cmpR op_ne (pe_cmpR (op_inL (hu65 hr)) (pv 15) (pv 4) rfl) (pe_cmpR (op_inL (hu65 hr)) (pv 15) (pe_dget (hu1 hr) (pv 5) (pv 13) (fun _ _ => rfl)) rfl) (nomark _))) (fun _ _ _ _ _ => pv 15)) pa_nil)) rfl))))
    (pss_cons (ps_set (i := 12) scLaw.nd rfl (.inr rfl) (pe_callB (cr_min rfl) (by rfl) X.min (by decide +kernel) (pa_cons (pe_lock
        (pe_lc (own := [("_law_memory_here", 13)]) (g := gName 13) rfl scLaw.nd (pi_keys (pv 11)) (blkOk_by (N := nLaw) (sc := defScope sLaw) (by decide +kernel)) (fun _ _ _ _ _ => pg_name (i := 13) scLaw.nd rfl (.inl rfl)) (fun _ _ _ _ _ => pts_nil)
          (fun _ _ _ _ _ => pe_dget (hu1 hr) (pv 11) (pv 13) (fun _ _ => rfl)))) pa_nil)))
    (pss_one (ps_ret (pe_callF FE (hr.mono (by decide)) (by rfl) (pa_cons (pe_callF FN hr (by rfl) (pa_cons (pv 2) (pa_cons (pe_callTy call_tuple_of (by rfl) X.tuple (by decide +kernel) (pa_cons (pv 4) pa_nil)) pa_nil)))
        (pa_cons (pe_tup (pa_cons (pv 12) (pa_cons (pe_callTy call_tuple_of (by rfl) X.tuple (by decide +kernel) (pa_cons
          (pe_lc (own := [("_law_memory_here", 13)]) (g := gName 13) (tt := tLeast) rfl scLaw.nd (pi_list (pe_callF FA (hr.mono (by decide)) (by rfl) (pa_cons (pv 2) pa_nil))) (blkOk_by (N := nLaw) (sc := defScope sLaw) (by decide +kernel)) (fun _ _ _ _ _ => pg_name (i := 13) scLaw.nd rfl (.inl rfl))
            (fun _ _ _ _ _ => pts_one (pt_cmpR op_eq (pe_dget (hu1 hr) (pv 11) (pv 13) (fun _ _ => rfl)) (pv 12) (nomark _))) (fun _ _ _ _ _ => pv 13)) pa_nil)) pa_nil))) pa_nil)))))))))))))))))))))), ?_⟩
  obtain ⟨M0, o0, s0⟩ := know_script hs hT
  refine ⟨_, rfl, (by show 4 ≤ sizeLine; decide), fun p hp => ?_⟩
  have mp : M0 p = none := Same.no o0.s hp
  have o1 : Ok T M0 (upd H p (rowV a 0 5540 0)) := o0.mut mp (notab_none hp)
  have R1 : RowOk K ns M0 (upd H p (rowV a 0 5540 0)) p a := ⟨⟨0, 5540, 0, upd_same, by decide, by decide, by decide⟩, mp, s0⟩
  change tCall (spTaken K) [] E0 (tCons (tVar 1) (tCons (tC (.int 5)) tNil)) _ _ _
  refine go_taken (m := 5) R1 o1 rfl (by decide) (by decide) fun t0 H2 ht0 o2 R2 _ => ⟨1, (t0 : Int), rfl, rfl, ?_⟩
  obtain ⟨n, hn⟩ : ∃ n, n = 1 + t0 := ⟨_, rfl⟩
  have n1 : 1 ≤ n := by omega
  have n5 : n ≤ 5 := by omega
  have n9 : n ≤ 9 := by omega
  have h5 := five n1 n5
  have dn : De M0 (.int (1 + (t0 : Int))) (.int ((n : Nat) : Int)) := by
    have e : 1 + (t0 : Int) = ((n : Nat) : Int) := by omega
    rw [e]
    exact .int _
  have hrl : (rels n).length ≤ 81 := by
    have h1 := rels_len n
    have h2 : n * n ≤ 9 * 9 := Nat.mul_le_mul n9 n9
    omega
  have hon : ∀ m ∈ mems n, (onM m).length ≤ 1000 := fun m hm => by
    have h1 := onM_len m (by rw [mems_len n m hm]; exact n9)
    omega
  have hms : (mems n).length < 100000 := by
    rw [mems_count]
    exact Nat.lt_of_le_of_lt (Nat.pow_le_pow_right (by decide) n9) (by decide)
  refine go_set (d := .list ((rels n).map relD)) (ed_call (ea_cons (ed_var rfl dn) ea_nil) rfl ⟨n, by omega, rfl, rfl⟩) o2 fun vr M3 H3 e3 o3 dr => ?_
  have R3 := R2.ex e3
  refine go_asgX ?_
  refine go_some h5 R3 o3 dr fun v4 M4 H4 ks hk s4 o4 R4 d4 => ?_
  refine go_asgX ?_
  refine go_coin R4 o4 rfl fun b H5 o5 R5 _ => ?_
  refine go_rev (ks := ks) o5 rfl d4 fun v5 M6 H6 rs hrs s6 o6 d5 => ?_
  -- what is drawn
  have hin : ∀ r ∈ rs, r ∈ rels n := fun r hr => by
    rcases hrs with e | e
    · rw [e] at hr; exact hk.subset hr
    · rw [e, List.mem_reverse] at hr; exact hk.subset hr
  have hnd : rs.Nodup := by
    have h1 := hk.nodup (rels_nodup n h5)
    rcases hrs with e | e
    · rw [e]; exact h1
    · rw [e]; exact (List.reverse_perm ks).nodup_iff.mpr h1
  have hlen : rs.length ≤ 1000 := by
    have h1 := hk.length_le
    rcases hrs with e | e
    · rw [e]; omega
    · rw [e, List.length_reverse]; omega
  obtain ⟨pp, hpp⟩ := sub_filter hk (rels_nodup n h5)
  have hfil : rs = (rels n).filter pp ∨ rs = ((rels n).filter pp).reverse := by rw [← hpp]; exact hrs
  obtain ⟨l1, l2, l3⟩ := least_in (foundA_ne n1 n5 hin)
  obtain ⟨g1, g2, g3⟩ := great_in (foundB_ne n1 n5 rs)
  have dn6 := dn.mono ((e3.m.trans s4).trans s6)
  have dr6 := dr.mono (s4.trans s6)
  refine go_dict (n := n) (ed_is (ed_lc (p := fun _ => true) (f := onPair) (ei_list (ed_call (d := .list ((mems n).map strD)) (ea_cons (ed_var rfl dn6) ea_nil) rfl ⟨n, n1, n5, rfl, rfl⟩)) ?_ fun d hd x M7 s7 dx => ?_) (congrArg PyData.list (onpair_list (mems n)))) o6 h5 fun t kvs M8 H8 s8 o8 ht tb => ?_
  · rw [List.length_map]; exact hms
  · obtain ⟨m, hm, rfl⟩ := List.mem_map.mp hd
    have hml := mems_len n m hm
    exact ⟨_, fun H1 Q s1 qq => qq, rfl, et_yes, fun _ => ed_is (ed_tup (ea_cons (ed_var rfl dx) (ea_cons (ed_call (d := .list ((onM m).map relD)) (ea_cons (ed_var rfl dx) ea_nil) rfl ⟨m, by omega, rfl, rfl⟩) ea_nil)) (by show 2 ≤ 100000; decide)) rfl⟩
  have dn8 := dn6.mono s8
  have dr8 := dr6.mono s8
  have d58 := d5.mono s8
  refine go_lockSet ht trivial (odd_dK _) (fun od => ed_keys (isAbove rs) n9 (by show 13 < 16; decide) rfl upd_same (tb.put ht (odd_dK _)) fun m hm x M' s' dx =>
    et_eq (by show 15 < 16; decide) (ed_var rfl ((d58.put ht (odd_dK _)).mono s')) hlen fun y M'' s'' => ed_at rfl (.inr ⟨od, (s'.trans s'') _ _ upd_same⟩) (((tb.put ht (odd_dK _)).mono s').mono s'') hm rfl (dx.mono s'')) o8 fun v7 M9 H9 e9 o9 d7 => ?_
  have t9 := e9.m _ _ ht
  have tb9 := tb.mono e9.m
  have d59 := d58.mono e9.m
  refine go_lockSet t9 trivial (odd_dK _) (fun od => ed_keys (isBelow rs) n9 (by show 13 < 16; decide) rfl upd_same (tb9.put t9 (odd_dK _)) fun m hm x M' s' dx =>
    et_eq (xs := onM m) (by show 15 < 16; decide) (ed_at rfl (.inr ⟨od, s' _ _ upd_same⟩) ((tb9.put t9 (odd_dK _)).mono s') hm rfl dx) (hon m hm) fun y M'' s'' => ed_var rfl (((d59.put t9 (odd_dK _)).mono s').mono s'')) o9 fun v8 M10 H10 e10 o10 d8 => ?_
  have t10 := e10.m _ _ t9
  have tb10 := tb9.mono e10.m
  have d510 := d59.mono e10.m
  have s810 := e9.m.trans e10.m
  refine go_pair (d1 := strD (leastM n rs)) (d2 := strD (greatM n rs)) (ed_call (ea_cons (ed_var rfl (dn8.mono s810)) (ea_cons (ed_cb (ea_cons (ed_var rfl d510) ea_nil) rdc_tup) ea_nil)) rfl ⟨n, rs, n1, n9, hnd, hin, foundA_ne n1 n5 hin, rfl, rfl⟩)
    (ed_call (ea_cons (ed_var rfl (dn8.mono s810)) (ea_cons (ed_cb (ea_cons (ed_var rfl d510) ea_nil) rdc_tup) ea_nil)) rfl ⟨n, rs, n1, n9, hnd, hin, foundB_ne n1 n5 rs, rfl, rfl⟩) o10 rfl fun vh vl M11 H11 s11 o11 dh dl => ?_
  have d711 := (d7.mono e10.m).mono s11
  have d811 := d8.mono s11
  have okA : ∀ f : List Nat → Bool, ∀ m ∈ (mems n).filter f, PyData.strOk (S m) = true := fun f m hm => mems_ok n h5 m (List.mem_filter.mp hm).1
  refine go_ifS (b := false) (et_is (et_or (et_test (ed_op (ed_var rfl dh) (ed_var rfl d711) (rd_niLd (strD_shaped (mems_ok n h5 _ l1)) (strDs_shaped (okA _))))) fun _ => et_test (ed_op (ed_var rfl dl) (ed_var rfl d811) (rd_niLd (strD_shaped (mems_ok n h5 _ g1)) (strDs_shaped (okA _))))) ?_) o11 (fun z => nomatch z) fun _ M12 H12 e12 o12 => ?_
  · rw [memD_str, memD_str, decide_eq_true (List.mem_filter.mpr ⟨l1, l2⟩), decide_eq_true (List.mem_filter.mpr ⟨g1, g2⟩)]
    rfl
  have s12 := s11.trans e12.m
  have t12 := s12 _ _ t10
  have tb12 := tb10.mono s12
  have dh12 := dh.mono e12.m
  have dl12 := dl.mono e12.m
  -- below all that are above
  refine for_s (ei_list (ed_var rfl (d711.mono e12.m))) o12 (fun i M' σ' H' => ∃ z : Option V, σ' = [some (.ref a), some (.ref p), some (.int (1 + (t0 : Int))), some vr, some v5, some (.ref t), some v7, some v8, some vh, some vl, none, none, none, z, none, none]) (fun _ _ _ => ⟨none, rfl⟩) ?_ ?_
  · rintro i d x M13 H13 M14 H14 σ3 N hd s13 o13 ⟨z, rfl⟩ e14 o14 dx hN
    obtain ⟨m, hm, rfl⟩ := List.mem_map.mp (List.mem_of_getElem? hd)
    obtain ⟨hm1, hm2⟩ := List.mem_filter.mp hm
    have s14 := s13.trans e14.m
    exact go_if (b := false) (et_ne (xs := onM (leastM n rs)) (ys := onM m) (by show 15 < 16; decide) (ed_at rfl (.inl (s14 _ _ t12)) (tb12.mono s14) l1 rfl (dh12.mono s14)) (hon _ l1) (fun y M'' s'' => ed_at rfl (.inl ((s14.trans s'') _ _ t12)) (tb12.mono (s14.trans s'')) hm1 rfl (dx.mono s'')) (least_all n1 n5 hin hm1 hm2)) o14
      (fun z => nomatch z) fun _ M15 H15 e15 o15 => hN M15 _ H15 e15.m o15 ⟨some x, rfl⟩
  rintro M16 σ16 H16 s16 o16 ⟨z16, rfl⟩
  have t16 := s16 _ _ t12
  have tb16 := tb12.mono s16
  refine for_s (ei_list (ed_var rfl ((d811.mono e12.m).mono s16))) o16 (fun i M' σ' H' => ∃ z : Option V, σ' = [some (.ref a), some (.ref p), some (.int (1 + (t0 : Int))), some vr, some v5, some (.ref t), some v7, some v8, some vh, some vl, none, none, none, z, none, none]) (fun _ _ _ => ⟨z16, rfl⟩) ?_ ?_
  · rintro i d x M13 H13 M14 H14 σ3 N hd s13 o13 ⟨z, rfl⟩ e14 o14 dx hN
    obtain ⟨m, hm, rfl⟩ := List.mem_map.mp (List.mem_of_getElem? hd)
    obtain ⟨hm1, hm2⟩ := List.mem_filter.mp hm
    have s14 := s13.trans e14.m
    exact go_if (b := false) (et_ne (xs := onM m) (ys := onM (greatM n rs)) (by show 15 < 16; decide) (ed_at rfl (.inl (s14 _ _ t16)) (tb16.mono s14) hm1 rfl dx) (hon m hm1) (fun y M'' s'' => ed_at rfl (.inl ((s14.trans s'') _ _ t16)) (tb16.mono (s14.trans s'')) g1 rfl (dl12.mono (s16.trans (s14.trans s'')))) (great_all n1 n5 hm1 hm2)) o14
      (fun z => nomatch z) fun _ M15 H15 e15 o15 => hN M15 _ H15 e15.m o15 ⟨some x, rfl⟩
  rintro M17 σ17 H17 s17 o17 ⟨z17, rfl⟩
  have t17 := s17 _ _ t16
  have tb17 := tb16.mono s17
  have s817 : Same M8 M17 := ((s810.trans s12).trans s16).trans s17
  have dn17 := dn8.mono s817
  have dr17 := dr8.mono s817
  have d517 := d58.mono s817
  have least1 : ∀ (σ : L2.St) (M : Hp) (x : V) (r : Rel), r ∈ rels n → σ[2]? = some (some (.int (1 + (t0 : Int)))) → De M (.int (1 + (t0 : Int))) (.int ((n : Nat) : Int)) → σ[14]? = some (some x) → De M x (relD r) →
      Ed T (tCall (spD T 2 rLeast) [] E0 (tCons (tVar 2) (tCons (tTup (tCons (tVar 14) tNil)) tNil))) σ M (strD (pillarM n r)) := fun σ M x r hr h2 dn h14 dx => by
    have hone : ∀ q ∈ [r], q ∈ rels n := fun q hq => by
      rcases List.mem_cons.mp hq with e | hq
      · rw [e]; exact hr
      · cases hq
    refine ed_is (ed_call (d := strD (leastM n [r])) (ea_cons (ed_var h2 dn) (ea_cons (ed_tup (ea_cons (ed_var h14 dx) ea_nil) (by show 1 ≤ 100000; decide)) ea_nil)) rfl ⟨n, [r], n1, n9, ?_, hone, foundA_ne n1 n5 hone, rfl, rfl⟩) (by rw [pillar_least n h5 r hr])
    exact List.nodup_cons.mpr ⟨by simp, List.nodup_nil⟩
  -- the pillar of each relay
  refine for_s (ei_list (ed_var rfl dr17)) o17 (fun i M' σ' H' => ∃ y : Option V, σ' = [some (.ref a), some (.ref p), some (.int (1 + (t0 : Int))), some vr, some v5, some (.ref t), some v7, some v8, some vh, some vl, none, none, none, z17, y, none]) (fun _ _ _ => ⟨none, rfl⟩) ?_ ?_
  · rintro i d x M13 H13 M14 H14 σ3 N hd s13 o13 ⟨z, rfl⟩ e14 o14 dx hN
    obtain ⟨r, hr, rfl⟩ := List.mem_map.mp (List.mem_of_getElem? hd)
    have dn14 := dn17.mono (s13.trans e14.m)
    exact go_if (b := false) (et_is (et_not (et_B (b := true) (ed_call (d := .bool true) (ea_cons (ed_call (d := strD (pillarM n r)) (ea_cons (ed_var rfl dn14) (ea_cons (ed_var rfl dx) ea_nil)) rfl ⟨n, r, n1, n9, hr, rfl, rfl⟩) (ea_cons (least1 _ _ x r hr rfl dn14 rfl dx) ea_nil)) rfl ⟨strD (pillarM n r), ok_str 3 _, rfl, rfl⟩))) rfl) o14
      (fun z => nomatch z) fun _ M15 H15 e15 o15 => hN M15 _ H15 e15.m o15 ⟨some x, rfl⟩
  rintro M18 σ18 H18 s18 o18 ⟨z18, rfl⟩
  obtain ⟨p1, p2, p3⟩ := prD_ok (pillarM n) (rels n)
  refine go_set (ed_cb (ea_cons (ed_cb (ea_cons (ed_is (ed_lc (p := fun _ => true) (f := ofRel n) (ei_list (ed_var rfl (dr17.mono s18))) ?_ fun d hd x M5 s5 dx => ?_) (congrArg PyData.list (prs_list n (rels n)))) ea_nil) (rdc_sort p1 p2 p3)) ea_nil) rdc_tup) o18 fun v19 M19 H19 e19 o19 d19 => ?_
  · rw [List.length_map]; omega
  · obtain ⟨r, hr, rfl⟩ := List.mem_map.mp hd
    exact ⟨_, fun H1 Q s1 qq => qq, rfl, et_yes, fun _ => ed_is (ed_tup (ea_cons (least1 _ _ x r hr rfl (dn17.mono (s18.trans s5)) rfl dx) (ea_cons (ed_var rfl dx) ea_nil)) (by show 2 ≤ 100000; decide)) rfl⟩
  have s19 := s18.trans e19.m
  refine go_ifS (b := false) (et_is (et_not (et_B (b := true) (ed_call (d := .bool true) (ea_cons (ed_call (d := .tuple (((rels n).map fun r => prD (pillarM n r) r).mergeSort (PySem.W.dataLe false id))) (ea_cons (ed_var rfl (dn17.mono s19)) ea_nil) rfl ⟨n, n1, n9, rfl, rfl⟩) (ea_cons (ed_var rfl d19) ea_nil)) rfl ⟨_, ok_prs n9, rfl, rfl⟩))) rfl) o19
    (fun z => nomatch z) fun _ M20 H20 e20 o20 => ?_
  have s20 := s19.trans e20.m
  have t20 := s20 _ _ t17
  have tb20 := tb17.mono s20
  have dn20 := dn17.mono s20
  have dr20 := dr17.mono s20
  have d520 := d517.mono s20
  -- the gaps
  refine go_new fun g hg => ?_
  have tg : t ≠ g := fun e => by
    have := o20.s _ _ t20
    rw [e, hg] at this
    cases this
  refine ⟨t, .dK kvs, by rw [upd_ne tg]; exact o20.s _ _ t20, trivial, fun od => ?_⟩
  rw [upd_comm (Ne.symm tg)]
  have oL : Ok T (upd M20 t (.frz od (.dK kvs))) (upd H20 t (.frz od (.dK kvs))) := o20.put t20 (odd_dK _)
  have gL : upd H20 t (.frz od (.dK kvs)) g = none := by rw [upd_ne (Ne.symm tg)]; exact hg
  have W0 := Own.start oL gL (odd_dK [])
  have drL : De (upd M20 t (.frz od (.dK kvs))) vr (.list ((rels n).map relD)) := dr20.put t20 (odd_dK _)
  have d5L : De (upd M20 t (.frz od (.dK kvs))) v5 (.list (rs.map relD)) := d520.put t20 (odd_dK _)
  have tbL : Tbl n kvs (upd M20 t (.frz od (.dK kvs))) := tb20.put t20 (odd_dK _)
  refine for_d (M1 := upd M20 t (.frz od (.dK kvs))) (ei_keys rfl upd_same tb20.keys) W0.o (fun i M' σ' H' => ∃ z : Option V, σ' = [some (.ref a), some (.ref p), some (.int (1 + (t0 : Int))), some vr, some v5, some (.ref t), some v7, some v8, some vh, some vl, some v19, some (.ref g), none, z, z18, none] ∧
    Own T (upd M20 t (.frz od (.dK kvs))) (upd H20 t (.frz od (.dK kvs))) g M' H' (.dK (((mems n).take i).map (gapK rs)))) (fun M2 H2 e2 => ⟨z17, rfl, W0.step e2⟩) ?_ ?_
  · rintro i d x M21 H21 M22 H22 σ3 N hd s21 o21 ⟨z, rfl, W21⟩ e22 o22 dx hN
    have W22 := W21.step e22
    obtain ⟨m, hmi, rfl⟩ : ∃ m, (mems n)[i]? = some m ∧ d = strD m := by
      rw [List.getElem?_map] at hd
      obtain ⟨m, q1, q2⟩ := Option.map_eq_some_iff.mp hd
      exact ⟨m, q1, q2.symm⟩
    have hm : m ∈ mems n := List.mem_of_getElem? hmi
    have hx := dx.str_of
    subst hx
    have s22 := s21.trans e22.m
    have etake : (mems n).take (i + 1) = (mems n).take i ++ [m] := by rw [List.take_add_one, hmi]; rfl
    have elist : ((mems n).take (i + 1)).map (gapK rs) = ((mems n).take i).map (gapK rs) ++ [(keyS m, .int ((gapM (onM m) rs : Nat) : Int))] := by rw [etake, List.map_append]; rfl
    refine go_dput (m := m) (i := ((gapM (onM m) rs : Nat) : Int)) (ed_is (ed_cb (ea_cons (ed_diff (xs := rels n) (rs := rs) (on := onM m) (by show 15 < 16; decide) rfl (drL.mono s22) (by omega) rfl (d5L.mono s22) fun y M'' s'' => ed_at rfl (.inr ⟨od, (s22.trans s'') _ _ upd_same⟩) (tbL.mono (s22.trans s'')) hm rfl (dx.mono s'')) ea_nil) rdc_lenL) ?_) o22 rfl rfl ?_ ?_ W22.d fun M23 H23 e23 o23 => ?_
    · rw [List.length_map, gap_xor hm hfil]
    · rw [List.length_map]
      refine Nat.lt_of_le_of_lt (List.length_take_le _ _) (Nat.lt_of_lt_of_le ?_ (show 100000 ≤ sizeLine by decide))
      have := (List.getElem?_eq_some_iff.mp hmi).1
      omega
    · refine val_none fun hmem => ?_
      obtain ⟨q, hq, e⟩ := List.mem_map.mp hmem
      obtain ⟨m', hm', rfl⟩ := List.mem_map.mp hq
      have e2 : m' = m := keyS_inj e
      rw [e2] at hm'
      exact not_before (mems_nodup n h5) hmi hm'
    · have W23 := (W22.step e23).put (odd_dK (((mems n).take i).map (gapK rs) ++ [(keyS m, .int ((gapM (onM m) rs : Nat) : Int))]))
      refine hN M23 _ _ e23.m W23.o ⟨some (.str (S m)), rfl, ?_⟩
      rw [elist]
      exact W23
  rintro M24 σ24 H24 s24 o24 ⟨z24, rfl, W24⟩
  rw [List.length_map, List.take_length] at W24
  have fin := W24.fin
  have hf : H24 t = some (.frz od (.dK kvs)) := fin.mh _ _ (fin.m _ _ upd_same)
  refine ⟨hf, ?_⟩
  have eF := fin.unput o20.s t20
  have oF := o20.ex eF
  have gF : upd (upd M24 g (.dK ((mems n).map (gapK rs)))) t (.dK kvs) g = some (.dK ((mems n).map (gapK rs))) := by rw [upd_ne (Ne.symm tg), upd_same]
  refine go_set (ed_least n9 (by show 13 < 16; decide) rfl gF) oF fun v25 M25 H25 e25 o25 d25 => ?_
  have s25 := eF.m.trans e25.m
  refine go_ret (d := .bool true) (ed_call (d := .bool true) (ea_cons (ed_call (d := .tuple [natD (nearLeast n rs), .tuple ((nearM n rs).map strD)]) (ea_cons (ed_var rfl (dn20.mono s25)) (ea_cons (ed_cb (ea_cons (ed_var rfl (d520.mono s25)) ea_nil) rdc_tup) ea_nil)) rfl ⟨n, rs, n1, n9, hnd, hin, hlen, rfl, rfl⟩)
    (ea_cons (ed_tup (ea_cons (ed_var rfl d25) (ea_cons (ed_cb (ea_cons (ed_near n9 (by show 13 < 16; decide) rfl (e25.m _ _ gF) rfl d25 (ed_call (d := .list ((mems n).map strD)) (ea_cons (ed_var rfl (dn20.mono s25)) ea_nil) rfl ⟨n, n1, n5, rfl, rfl⟩)) ea_nil) rdc_tup) ea_nil)) (by show 2 ≤ 100000; decide)) ea_nil)) rfl ⟨_, ok_nears n9 rs, rfl, rfl⟩) o25 fun v M26 H26 e26 dv => ?_
  rw [dv.bl_of]
  exact q H26
end
end Rb

set_option Elab.async false
set_option linter.all false
set_option maxRecDepth 100000
set_option maxHeartbeats 4000000
/-! ### all together -/
namespace Rb
open PySem L2 PySem.Spec PyProof.Rows
theorem def_mk {K : PySem.W.Frag} {h : Heap} {mg : Str → Option Value} {x : Str} {st : Stmt} {ps : List Str} {f : Addr} {oc kV dc pm cd ct : Value} {od an : Option Addr} {osl : Array (Option Value)} (X : K.In h) (G : h.Ns mainGlobals mg)
    (a : PySem.W.nsIn K mainGlobals x = some (some (.ref f))) (l : K.lookup f = some ⟨oc, od, .func (PySem.W.fnOf x x (defArgs st) (defBody st) (defScope st) .none kV dc pm an cd ct), osl⟩) (c : PySem.W.codeIn K cd x = true) (k : PySem.W.keepIn K (.ref f) = true)
    (b : ∀ (kV doc pm : Value) (an : Option Addr) (cdv ct : Value) (us : List Value), us.length = ps.length → bindArgs (PySem.W.fnOf x x (defArgs st) (defBody st) (defScope st) .none kV doc pm an cdv ct) ⟨us, []⟩ = pure (ps.zip us)) : Def K mg x st ps :=
  have F := fun_mk (st := st) l c k
  ⟨f, _, F, PySem.W.mg_of X G a, F.binds b⟩
theorem defC_mk {K : PySem.W.Frag} {h : Heap} {mg : Str → Option Value} {x : Str} {st : Stmt} {ps : List Str} {f cd : Addr} {oc kV dc pm ct : Value} {od an : Option Addr} {osl : Array (Option Value)} (X : K.In h) (G : h.Ns mainGlobals mg)
    (a : PySem.W.nsIn K mainGlobals x = some (some (.ref f))) (l : K.lookup f = some ⟨oc, od, .func (PySem.W.fnOf x x (defArgs st) (defBody st) (defScope st) .none kV dc pm an (.ref cd) ct), osl⟩) (c : PySem.W.codeIn K (.ref cd) x = true) (k : PySem.W.keepIn K (.ref f) = true)
    (b : ∀ (kV doc pm : Value) (an : Option Addr) (cdv ct : Value) (us : List Value), us.length = ps.length → bindArgs (PySem.W.fnOf x x (defArgs st) (defBody st) (defScope st) .none kV doc pm an cdv ct) ⟨us, []⟩ = pure (ps.zip us)) : DefC K mg x st ps cd :=
  ⟨f, oc, od, an, osl, kV, dc, pm, ct, l, c, k, PySem.W.mg_of X G a, (fun_mk (st := st) l c k).binds b⟩
/-- the defs of the module -/
structure AllD (K : PySem.W.Frag) (mg : Str → Option Value) (c1 c2 : Addr) : Prop where
  D0 : Def K mg "is_in" sIsIn ["value", "least", "most"]
  D1 : Def K mg "need_span" sNeedSpan ["span"]
  D2 : Def K mg "all_memories" sMems ["span"]
  D3 : Def K mg "is_relay" sIsRel ["span", "value"]
  D4 : Def K mg "all_relays" sRels ["span"]
  D5 : Def K mg "place" sPlace ["memory", "sign", "number"]
  D6 : Def K mg "holds" sHolds ["memory", "relay"]
  D7 : Def K mg "on_in" sOnIn ["memory"]
  D8 : Def K mg "need_relays" sNeedRels ["span", "relays"]
  D9 : Def K mg "need_some" sNeedSome ["span", "relays"]
  D10 : Def K mg "gap" sGap ["on", "relays"]
  D11 : Def K mg "nearest_memories" sNear ["span", "relays"]
  D12 : Def K mg "pillar_of" sPilOf ["span", "relay"]
  D13 : Def K mg "pillar" sPillar ["span", "relay"]
  D14 : Def K mg "pillars" sPillars ["span"]
  D15 : Def K mg "_law_taken" sTaken ["_law_row", "_law_many"]
  D16 : Def K mg "_law_alike" sAlike ["_law_found", "_law_due"]
  D17 : Def K mg "_law_all" sLawAll ["_law_span"]
  D18 : Def K mg "_law_on" sLawOn ["_law_memory_here"]
  D19 : Def K mg "_law_relays" sLawRels ["_law_span"]
  E1 : DefC K mg "least_above" sLeast ["span", "relays"] c1
  E2 : DefC K mg "greatest_below" sGreat ["span", "relays"] c2
theorem all_ok {P : Program} {w : World} {K : PySem.W.Frag} {mg : Str → Option Value} {base : Heap} {c1 P1 c2 P2 f : Addr} {fd : FuncData} (X : Txt mg) (A : AllD K mg c1 c2) (T1 : GxR.TabB base mg c1 P1) (T2 : GxR.TabB base mg c2 P2) (F : Fun K "law" "law" sLaw f fd) :
    FnOk P w K mg base CX0 6 f fd ["_law_script"] (spLaw K [P1, P2]) := by
  have isIn := ok_isIn (P := P) (w := w) (base := base) (T := [P1, P2]) A.D0 X
  have needSpan := ok_needSpan A.D1 X isIn
  have mems := ok_mems (P := P) (w := w) (base := base) (T := [P1, P2]) A.D2 X
  have isRel := ok_isRel A.D3 X isIn
  have rels := ok_rels (P := P) (w := w) (base := base) (T := [P1, P2]) A.D4 X
  have place := ok_place (P := P) (w := w) (base := base) (T := [P1, P2]) A.D5 X
  have holds := ok_holds A.D6 X place
  have onIn := ok_onIn A.D7 X rels holds
  have needRels := ok_needRels A.D8 X isRel
  have needSome := ok_needSome A.D9 X needSpan needRels
  have gap := ok_gap (P := P) (w := w) (base := base) (T := [P1, P2]) A.D10 X
  have least := ok_least (T := [P1, P2]) List.mem_cons_self T1 A.E1 X needSome mems onIn
  have great := ok_great (T := [P1, P2]) (List.mem_cons_of_mem _ List.mem_cons_self) T2 A.E2 X needSome mems onIn
  have near := ok_near A.D11 X needSome mems onIn gap
  have pilOf := ok_pilOf (P := P) (w := w) (base := base) (T := [P1, P2]) A.D12 X
  have pillar := ok_pillar A.D13 X needSpan isRel pilOf
  have pillars := ok_pillars A.D14 X needSpan rels pilOf
  have taken := ok_taken (P := P) (w := w) (base := base) A.D15 X
  have alike := ok_alike (P := P) (w := w) (base := base) (T := [P1, P2]) A.D16 X 4
  have lawAll := ok_lawAll (P := P) (w := w) (base := base) (T := [P1, P2]) A.D17 X
  have lawOn := ok_lawOn (P := P) (w := w) (base := base) (T := [P1, P2]) A.D18 X
  have lawRels := ok_lawRels (P := P) (w := w) (base := base) (T := [P1, P2]) A.D19 X
  exact ok_law F X taken lawRels lawAll lawOn least great near pillar pillars alike
/-- the walk, with the tables of the top's defs told -/
theorem walk {l : PySem.W.OpenLaw} {q : Program} {loose : List Str} {XP : (Str → Option Value) → Heap → Prop} {YP : World → Heap → Prop} {d : DefRec} {K : Params → PySem.W.Frag} (hn : l.most = some 63) (hdf : d.params.defaults = [])
    (hY : ∀ (w : World) (h : Heap), YP w h → (K w.params).In h)
    (F : ∀ (w : World) (mg : Str → Option Value) (fa : Addr) (h : Heap), (K w.params).In h → h.Ns mainGlobals mg → mg d.name = some (.ref fa) →
      (∀ (x : Str) (e : DefRec) (c P : Addr), (recsOf q).find? (fun e => e.name == x) = some e → PySem.W.tabIn (K w.params) x = some (c, P) → PySem.W.CodeHd h c P ∧ h.get? P = some { cls := .none, data := .fields #[] }) → LamX.LawAtS l w (K w.params) CX0 6 63 "_law_script" mg fa h) :
    PySem.W.WalkO q loose XP YP l.row.toRowW d [] (fun f vs => PySem.call f vs) := by
  refine Att.attach_callB hn hdf fun w s₀ s₁ mg mb fa o pm cd doc a vs ns G Y ho hd hcd hmg hobj hints hlen hbits hg => ?_
  have KX := hY w _ Y
  obtain ⟨fd, cs, sp, hT, nT, C, hb, hsp, hF⟩ := F w mg fa _ KX G.T.g hmg fun x e c P r t => PySem.W.tab_of G.T KX r t
  exact LamX.law_callTs KX G.T.g G.T.b G.T.builtins G.T.nolimit hg hT nT C G.T.bmain hobj hints (Nat.le_trans hlen (by decide)) ⟨rfl, by decide, by decide⟩ hF hb (fun H hH hS => hsp H a ns hlen hbits hH hS) fun _ _ _ z => z
theorem law_at {l : PySem.W.OpenLaw} {w : World} {K : PySem.W.Frag} {h : Heap} {mg : Str → Option Value} {fa f c1 P1 c2 P2 : Addr} {oc kV dc pm cd ct : Value} {od an : Option Addr} {osl : Array (Option Value)} (X : K.In h) (G : h.Ns mainGlobals mg) (hfa : mg "law" = some (.ref fa)) (T : Txt mg) (A : AllD K mg c1 c2)
    (a : PySem.W.nsIn K mainGlobals "law" = some (some (.ref f))) (lk : K.lookup f = some ⟨oc, od, .func (PySem.W.fnOf "law" "law" (defArgs sLaw) (defBody sLaw) (defScope sLaw) .none kV dc pm an cd ct), osl⟩) (c : PySem.W.codeIn K cd "law" = true) (k : PySem.W.keepIn K (.ref f) = true)
    (t1 : PySem.W.CodeHd h c1 P1 ∧ h.get? P1 = some { cls := .none, data := .fields #[] }) (t2 : PySem.W.CodeHd h c2 P2 ∧ h.get? P2 = some { cls := .none, data := .fields #[] }) (n1 : K.lookup P1 = none) (n2 : K.lookup P2 = none) : LamX.LawAtS l w K CX0 6 63 "_law_script" mg fa h := by
  have e := hfa.symm.trans (PySem.W.mg_of X G a)
  cases e
  have two : ∀ {R : Addr × Addr → Prop}, R (c1, P1) → R (c2, P2) → ∀ p ∈ [(c1, P1), (c2, P2)], R p := fun r1 r2 p hp => by
    rcases List.mem_cons.mp hp with e | hp
    · rw [e]; exact r1
    · rcases List.mem_cons.mp hp with e | hp
      · rw [e]; exact r2
      · cases hp
  refine ⟨PySem.W.fnOf "law" "law" (defArgs sLaw) (defBody sLaw) (defScope sLaw) .none kV dc pm an cd ct, [(c1, P1), (c2, P2)], spLaw K [P1, P2], two t1.2 t2.2, two n1 n2, two t1.1 t2.1, fun s v => .of_eq rfl, fun H a ns _ _ hH hS => ⟨a, ns, rfl, hS, fun P hP => ?_, fun _ => rfl⟩, fun base KB GB TB => ?_⟩
  · have go : ∀ p ∈ [(c1, P1), (c2, P2)], GxR.TabG H p.2 := fun p hp => ⟨#[], hH p hp, trivial⟩
    rcases List.mem_cons.mp hP with e | hP
    · rw [e]; exact go (c1, P1) List.mem_cons_self
    · rcases List.mem_cons.mp hP with e | hP
      · rw [e]; exact go (c2, P2) (List.mem_cons_of_mem _ List.mem_cons_self)
      · cases hP
  · have b1 := TB (c1, P1) List.mem_cons_self
    have b2 := TB (c2, P2) (List.mem_cons_of_mem _ List.mem_cons_self)
    exact all_ok T A ⟨b1.code, b1.bm, b1.gP⟩ ⟨b2.code, b2.bm, b2.gP⟩ (fun_mk (st := sLaw) lk c k)
theorem tab_in {K : PySem.W.Frag} {x : Str} {f c P : Addr} {fd : FuncData} {o1 o2 : Value} {d1 d2 : Option Addr} {s1 s2 : Array (Option Value)} {vs : Array Value} (a : PySem.W.nsIn K mainGlobals x = some (some (.ref f))) (l : K.lookup f = some ⟨o1, d1, .func fd, s1⟩) (hc : fd.code = .ref c) (l2 : K.lookup c = some ⟨o2, d2, .fields vs, s2⟩) (h : vs[11]? = some (.ref P)) : PySem.W.tabIn K x = some (c, P) := by
  unfold PySem.W.tabIn
  simp only [a, l, hc, l2, h]
theorem all_mk {l : PySem.W.OpenLaw} {w : World} {K : PySem.W.Frag} {h : Heap} {mg : Str → Option Value} {q : Program} {fa P1 P2 : Addr} {r1 r2 : DefRec} {vt1 vt2 : Array Value} {ot1 ot2 : Value} {dt1 dt2 : Option Addr} {st1 st2 : Array (Option Value)} {tm : Tok}
    {f0 f1 f2 f3 f4 f5 f6 f7 f8 f9 f10 f11 f12 f13 f14 f15 f16 f17 f18 f19 f20 f21 f22 : Addr} {od0 an0 od1 an1 od2 an2 od3 an3 od4 an4 od5 an5 od6 an6 od7 an7 od8 an8 od9 an9 od10 an10 od11 an11 od12 an12 od13 an13 od14 an14 od15 an15 od16 an16 od17 an17 od18 an18 od19 an19 od20 an20 od21 an21 od22 an22 : Option Addr} {sl0 sl1 sl2 sl3 sl4 sl5 sl6 sl7 sl8 sl9 sl10 sl11 sl12 sl13 sl14 sl15 sl16 sl17 sl18 sl19 sl20 sl21 sl22 : Array (Option Value)} {oc0 kV0 dc0 pm0 ct0 oc1 kV1 dc1 pm1 ct1 oc2 kV2 dc2 pm2 ct2 oc3 kV3 dc3 pm3 ct3 oc4 kV4 dc4 pm4 ct4 oc5 kV5 dc5 pm5 ct5 oc6 kV6 dc6 pm6 ct6 oc7 kV7 dc7 pm7 ct7 oc8 kV8 dc8 pm8 ct8 oc9 kV9 dc9 pm9 ct9 oc10 kV10 dc10 pm10 ct10 oc11 kV11 dc11 pm11 ct11 oc12 kV12 dc12 pm12 ct12 oc13 kV13 dc13 pm13 ct13 oc14 kV14 dc14 pm14 ct14 oc15 kV15 dc15 pm15 ct15 oc16 kV16 dc16 pm16 ct16 oc17 kV17 dc17 pm17 ct17 oc18 kV18 dc18 pm18 ct18 oc19 kV19 dc19 pm19 ct19 oc20 kV20 dc20 pm20 ct20 oc21 kV21 dc21 pm21 ct21 oc22 kV22 dc22 pm22 ct22 : Value} {cd0 cd1 cd2 cd3 cd4 cd5 cd6 cd7 cd8 cd9 cd10 cd11 cd12 cd13 cd14 cd15 cd16 cd17 cd18 cd19 cd22 : Value} {cd20 cd21 : Addr}
    (X : K.In h) (G : h.Ns mainGlobals mg) (hfa : mg "law" = some (.ref fa)) (tab : ∀ (x : Str) (e : DefRec) (c P : Addr), (recsOf q).find? (fun e => e.name == x) = some e → PySem.W.tabIn K x = some (c, P) → PySem.W.CodeHd h c P ∧ h.get? P = some { cls := .none, data := .fields #[] })
    (a0 : PySem.W.nsIn K mainGlobals "is_in" = some (some (.ref f0))) (l0 : K.lookup f0 = some ⟨oc0, od0, .func (PySem.W.fnOf "is_in" "is_in" (defArgs sIsIn) (defBody sIsIn) (defScope sIsIn) .none kV0 dc0 pm0 an0 cd0 ct0), sl0⟩) (c0 : PySem.W.codeIn K cd0 "is_in" = true) (k0 : PySem.W.keepIn K (.ref f0) = true)
    (a1 : PySem.W.nsIn K mainGlobals "need_span" = some (some (.ref f1))) (l1 : K.lookup f1 = some ⟨oc1, od1, .func (PySem.W.fnOf "need_span" "need_span" (defArgs sNeedSpan) (defBody sNeedSpan) (defScope sNeedSpan) .none kV1 dc1 pm1 an1 cd1 ct1), sl1⟩) (c1 : PySem.W.codeIn K cd1 "need_span" = true) (k1 : PySem.W.keepIn K (.ref f1) = true)
    (a2 : PySem.W.nsIn K mainGlobals "all_memories" = some (some (.ref f2))) (l2 : K.lookup f2 = some ⟨oc2, od2, .func (PySem.W.fnOf "all_memories" "all_memories" (defArgs sMems) (defBody sMems) (defScope sMems) .none kV2 dc2 pm2 an2 cd2 ct2), sl2⟩) (c2 : PySem.W.codeIn K cd2 "all_memories" = true) (k2 : PySem.W.keepIn K (.ref f2) = true)
    (a3 : PySem.W.nsIn K mainGlobals "is_relay" = some (some (.ref f3))) (l3 : K.lookup f3 = some ⟨oc3, od3, .func (PySem.W.fnOf "is_relay" "is_relay" (defArgs sIsRel) (defBody sIsRel) (defScope sIsRel) .none kV3 dc3 pm3 an3 cd3 ct3), sl3⟩) (c3 : PySem.W.codeIn K cd3 "is_relay" = true) (k3 : PySem.W.keepIn K (.ref f3) = true)
    (a4 : PySem.W.nsIn K mainGlobals "all_relays" = some (some (.ref f4))) (l4 : K.lookup f4 = some ⟨oc4, od4, .func (PySem.W.fnOf "all_relays" "all_relays" (defArgs sRels) (defBody sRels) (defScope sRels) .none kV4 dc4 pm4 an4 cd4 ct4), sl4⟩) (c4 : PySem.W.codeIn K cd4 "all_relays" = true) (k4 : PySem.W.keepIn K (.ref f4) = true)
    (a5 : PySem.W.nsIn K mainGlobals "place" = some (some (.ref f5))) (l5 : K.lookup f5 = some ⟨oc5, od5, .func (PySem.W.fnOf "place" "place" (defArgs sPlace) (defBody sPlace) (defScope sPlace) .none kV5 dc5 pm5 an5 cd5 ct5), sl5⟩) (c5 : PySem.W.codeIn K cd5 "place" = true) (k5 : PySem.W.keepIn K (.ref f5) = true)
    (a6 : PySem.W.nsIn K mainGlobals "holds" = some (some (.ref f6))) (l6 : K.lookup f6 = some ⟨oc6, od6, .func (PySem.W.fnOf "holds" "holds" (defArgs sHolds) (defBody sHolds) (defScope sHolds) .none kV6 dc6 pm6 an6 cd6 ct6), sl6⟩) (c6 : PySem.W.codeIn K cd6 "holds" = true) (k6 : PySem.W.keepIn K (.ref f6) = true)
    (a7 : PySem.W.nsIn K mainGlobals "on_in" = some (some (.ref f7))) (l7 : K.lookup f7 = some ⟨oc7, od7, .func (PySem.W.fnOf "on_in" "on_in" (defArgs sOnIn) (defBody sOnIn) (defScope sOnIn) .none kV7 dc7 pm7 an7 cd7 ct7), sl7⟩) (c7 : PySem.W.codeIn K cd7 "on_in" = true) (k7 : PySem.W.keepIn K (.ref f7) = true)
    (a8 : PySem.W.nsIn K mainGlobals "need_relays" = some (some (.ref f8))) (l8 : K.lookup f8 = some ⟨oc8, od8, .func (PySem.W.fnOf "need_relays" "need_relays" (defArgs sNeedRels) (defBody sNeedRels) (defScope sNeedRels) .none kV8 dc8 pm8 an8 cd8 ct8), sl8⟩) (c8 : PySem.W.codeIn K cd8 "need_relays" = true) (k8 : PySem.W.keepIn K (.ref f8) = true)
    (a9 : PySem.W.nsIn K mainGlobals "need_some" = some (some (.ref f9))) (l9 : K.lookup f9 = some ⟨oc9, od9, .func (PySem.W.fnOf "need_some" "need_some" (defArgs sNeedSome) (defBody sNeedSome) (defScope sNeedSome) .none kV9 dc9 pm9 an9 cd9 ct9), sl9⟩) (c9 : PySem.W.codeIn K cd9 "need_some" = true) (k9 : PySem.W.keepIn K (.ref f9) = true)
    (a10 : PySem.W.nsIn K mainGlobals "gap" = some (some (.ref f10))) (l10 : K.lookup f10 = some ⟨oc10, od10, .func (PySem.W.fnOf "gap" "gap" (defArgs sGap) (defBody sGap) (defScope sGap) .none kV10 dc10 pm10 an10 cd10 ct10), sl10⟩) (c10 : PySem.W.codeIn K cd10 "gap" = true) (k10 : PySem.W.keepIn K (.ref f10) = true)
    (a11 : PySem.W.nsIn K mainGlobals "nearest_memories" = some (some (.ref f11))) (l11 : K.lookup f11 = some ⟨oc11, od11, .func (PySem.W.fnOf "nearest_memories" "nearest_memories" (defArgs sNear) (defBody sNear) (defScope sNear) .none kV11 dc11 pm11 an11 cd11 ct11), sl11⟩) (c11 : PySem.W.codeIn K cd11 "nearest_memories" = true) (k11 : PySem.W.keepIn K (.ref f11) = true)
    (a12 : PySem.W.nsIn K mainGlobals "pillar_of" = some (some (.ref f12))) (l12 : K.lookup f12 = some ⟨oc12, od12, .func (PySem.W.fnOf "pillar_of" "pillar_of" (defArgs sPilOf) (defBody sPilOf) (defScope sPilOf) .none kV12 dc12 pm12 an12 cd12 ct12), sl12⟩) (c12 : PySem.W.codeIn K cd12 "pillar_of" = true) (k12 : PySem.W.keepIn K (.ref f12) = true)
    (a13 : PySem.W.nsIn K mainGlobals "pillar" = some (some (.ref f13))) (l13 : K.lookup f13 = some ⟨oc13, od13, .func (PySem.W.fnOf "pillar" "pillar" (defArgs sPillar) (defBody sPillar) (defScope sPillar) .none kV13 dc13 pm13 an13 cd13 ct13), sl13⟩) (c13 : PySem.W.codeIn K cd13 "pillar" = true) (k13 : PySem.W.keepIn K (.ref f13) = true)
    (a14 : PySem.W.nsIn K mainGlobals "pillars" = some (some (.ref f14))) (l14 : K.lookup f14 = some ⟨oc14, od14, .func (PySem.W.fnOf "pillars" "pillars" (defArgs sPillars) (defBody sPillars) (defScope sPillars) .none kV14 dc14 pm14 an14 cd14 ct14), sl14⟩) (c14 : PySem.W.codeIn K cd14 "pillars" = true) (k14 : PySem.W.keepIn K (.ref f14) = true)
    (a15 : PySem.W.nsIn K mainGlobals "_law_taken" = some (some (.ref f15))) (l15 : K.lookup f15 = some ⟨oc15, od15, .func (PySem.W.fnOf "_law_taken" "_law_taken" (defArgs sTaken) (defBody sTaken) (defScope sTaken) .none kV15 dc15 pm15 an15 cd15 ct15), sl15⟩) (c15 : PySem.W.codeIn K cd15 "_law_taken" = true) (k15 : PySem.W.keepIn K (.ref f15) = true)
    (a16 : PySem.W.nsIn K mainGlobals "_law_alike" = some (some (.ref f16))) (l16 : K.lookup f16 = some ⟨oc16, od16, .func (PySem.W.fnOf "_law_alike" "_law_alike" (defArgs sAlike) (defBody sAlike) (defScope sAlike) .none kV16 dc16 pm16 an16 cd16 ct16), sl16⟩) (c16 : PySem.W.codeIn K cd16 "_law_alike" = true) (k16 : PySem.W.keepIn K (.ref f16) = true)
    (a17 : PySem.W.nsIn K mainGlobals "_law_all" = some (some (.ref f17))) (l17 : K.lookup f17 = some ⟨oc17, od17, .func (PySem.W.fnOf "_law_all" "_law_all" (defArgs sLawAll) (defBody sLawAll) (defScope sLawAll) .none kV17 dc17 pm17 an17 cd17 ct17), sl17⟩) (c17 : PySem.W.codeIn K cd17 "_law_all" = true) (k17 : PySem.W.keepIn K (.ref f17) = true)
    (a18 : PySem.W.nsIn K mainGlobals "_law_on" = some (some (.ref f18))) (l18 : K.lookup f18 = some ⟨oc18, od18, .func (PySem.W.fnOf "_law_on" "_law_on" (defArgs sLawOn) (defBody sLawOn) (defScope sLawOn) .none kV18 dc18 pm18 an18 cd18 ct18), sl18⟩) (c18 : PySem.W.codeIn K cd18 "_law_on" = true) (k18 : PySem.W.keepIn K (.ref f18) = true)
    (a19 : PySem.W.nsIn K mainGlobals "_law_relays" = some (some (.ref f19))) (l19 : K.lookup f19 = some ⟨oc19, od19, .func (PySem.W.fnOf "_law_relays" "_law_relays" (defArgs sLawRels) (defBody sLawRels) (defScope sLawRels) .none kV19 dc19 pm19 an19 cd19 ct19), sl19⟩) (c19 : PySem.W.codeIn K cd19 "_law_relays" = true) (k19 : PySem.W.keepIn K (.ref f19) = true)
    (a20 : PySem.W.nsIn K mainGlobals "least_above" = some (some (.ref f20))) (l20 : K.lookup f20 = some ⟨oc20, od20, .func (PySem.W.fnOf "least_above" "least_above" (defArgs sLeast) (defBody sLeast) (defScope sLeast) .none kV20 dc20 pm20 an20 (.ref cd20) ct20), sl20⟩) (c20 : PySem.W.codeIn K (.ref cd20) "least_above" = true) (k20 : PySem.W.keepIn K (.ref f20) = true)
    (a21 : PySem.W.nsIn K mainGlobals "greatest_below" = some (some (.ref f21))) (l21 : K.lookup f21 = some ⟨oc21, od21, .func (PySem.W.fnOf "greatest_below" "greatest_below" (defArgs sGreat) (defBody sGreat) (defScope sGreat) .none kV21 dc21 pm21 an21 (.ref cd21) ct21), sl21⟩) (c21 : PySem.W.codeIn K (.ref cd21) "greatest_below" = true) (k21 : PySem.W.keepIn K (.ref f21) = true)
    (a22 : PySem.W.nsIn K mainGlobals "law" = some (some (.ref f22))) (l22 : K.lookup f22 = some ⟨oc22, od22, .func (PySem.W.fnOf "law" "law" (defArgs sLaw) (defBody sLaw) (defScope sLaw) .none kV22 dc22 pm22 an22 cd22 ct22), sl22⟩) (c22 : PySem.W.codeIn K cd22 "law" = true) (k22 : PySem.W.keepIn K (.ref f22) = true)
    (t_isi : PySem.W.nsIn K mainGlobals "isinstance" = some none)
    (t_int : PySem.W.nsIn K mainGlobals "int" = some none)
    (t_bool : PySem.W.nsIn K mainGlobals "bool" = some none)
    (t_tuple : PySem.W.nsIn K mainGlobals "tuple" = some none)
    (t_list : PySem.W.nsIn K mainGlobals "list" = some none)
    (t_str : PySem.W.nsIn K mainGlobals "str" = some none)
    (t_dict : PySem.W.nsIn K mainGlobals "dict" = some none)
    (t_len : PySem.W.nsIn K mainGlobals "len" = some none)
    (t_range : PySem.W.nsIn K mainGlobals "range" = some none)
    (t_enum : PySem.W.nsIn K mainGlobals "enumerate" = some none)
    (t_all : PySem.W.nsIn K mainGlobals "all" = some none)
    (t_min : PySem.W.nsIn K mainGlobals "min" = some none)
    (t_max : PySem.W.nsIn K mainGlobals "max" = some none)
    (t_sorted : PySem.W.nsIn K mainGlobals "sorted" = some none)
    (t_most : PySem.W.nsIn K mainGlobals "MOST_SPAN" = some (some (.int 9 tm)))
    (u1 : K.lookup cd20 = some ⟨ot1, dt1, .fields vt1, st1⟩) (u2 : K.lookup cd21 = some ⟨ot2, dt2, .fields vt2, st2⟩) (w1 : vt1[11]? = some (.ref P1)) (w2 : vt2[11]? = some (.ref P2))
    (y1 : (recsOf q).find? (fun e => e.name == ("least_above" : Str)) = some r1) (y2 : (recsOf q).find? (fun e => e.name == ("greatest_below" : Str)) = some r2) (n1 : K.lookup P1 = none) (n2 : K.lookup P2 = none) : LamX.LawAtS l w K CX0 6 63 "_law_script" mg fa h := by
  have T : Txt mg := ⟨PySem.W.mg_none_of X G t_isi, PySem.W.mg_none_of X G t_int, PySem.W.mg_none_of X G t_bool, PySem.W.mg_none_of X G t_tuple, PySem.W.mg_none_of X G t_list, PySem.W.mg_none_of X G t_str, PySem.W.mg_none_of X G t_dict, PySem.W.mg_none_of X G t_len, PySem.W.mg_none_of X G t_range, PySem.W.mg_none_of X G t_enum, PySem.W.mg_none_of X G t_all, PySem.W.mg_none_of X G t_min, PySem.W.mg_none_of X G t_max, PySem.W.mg_none_of X G t_sorted, tm, PySem.W.mg_of X G t_most⟩
  have A : AllD K mg cd20 cd21 := ⟨def_mk X G a0 l0 c0 k0 (fun _ _ _ _ _ _ us hl => match us, hl with | [_, _, _], _ => rfl),
    def_mk X G a1 l1 c1 k1 (fun _ _ _ _ _ _ us hl => match us, hl with | [_], _ => rfl),
    def_mk X G a2 l2 c2 k2 (fun _ _ _ _ _ _ us hl => match us, hl with | [_], _ => rfl),
    def_mk X G a3 l3 c3 k3 (fun _ _ _ _ _ _ us hl => match us, hl with | [_, _], _ => rfl),
    def_mk X G a4 l4 c4 k4 (fun _ _ _ _ _ _ us hl => match us, hl with | [_], _ => rfl),
    def_mk X G a5 l5 c5 k5 (fun _ _ _ _ _ _ us hl => match us, hl with | [_, _, _], _ => rfl),
    def_mk X G a6 l6 c6 k6 (fun _ _ _ _ _ _ us hl => match us, hl with | [_, _], _ => rfl),
    def_mk X G a7 l7 c7 k7 (fun _ _ _ _ _ _ us hl => match us, hl with | [_], _ => rfl),
    def_mk X G a8 l8 c8 k8 (fun _ _ _ _ _ _ us hl => match us, hl with | [_, _], _ => rfl),
    def_mk X G a9 l9 c9 k9 (fun _ _ _ _ _ _ us hl => match us, hl with | [_, _], _ => rfl),
    def_mk X G a10 l10 c10 k10 (fun _ _ _ _ _ _ us hl => match us, hl with | [_, _], _ => rfl),
    def_mk X G a11 l11 c11 k11 (fun _ _ _ _ _ _ us hl => match us, hl with | [_, _], _ => rfl),
    def_mk X G a12 l12 c12 k12 (fun _ _ _ _ _ _ us hl => match us, hl with | [_, _], _ => rfl),
    def_mk X G a13 l13 c13 k13 (fun _ _ _ _ _ _ us hl => match us, hl with | [_, _], _ => rfl),
    def_mk X G a14 l14 c14 k14 (fun _ _ _ _ _ _ us hl => match us, hl with | [_], _ => rfl),
    def_mk X G a15 l15 c15 k15 (fun _ _ _ _ _ _ us hl => match us, hl with | [_, _], _ => rfl),
    def_mk X G a16 l16 c16 k16 (fun _ _ _ _ _ _ us hl => match us, hl with | [_, _], _ => rfl),
    def_mk X G a17 l17 c17 k17 (fun _ _ _ _ _ _ us hl => match us, hl with | [_], _ => rfl),
    def_mk X G a18 l18 c18 k18 (fun _ _ _ _ _ _ us hl => match us, hl with | [_], _ => rfl),
    def_mk X G a19 l19 c19 k19 (fun _ _ _ _ _ _ us hl => match us, hl with | [_], _ => rfl),
    defC_mk X G a20 l20 c20 k20 (fun _ _ _ _ _ _ us hl => match us, hl with | [_, _], _ => rfl),
    defC_mk X G a21 l21 c21 k21 (fun _ _ _ _ _ _ us hl => match us, hl with | [_, _], _ => rfl)⟩
  exact law_at X G hfa T A a22 l22 c22 k22 (tab _ _ _ _ y1 (tab_in a20 l20 rfl u1 w1)) (tab _ _ _ _ y2 (tab_in a21 l21 rfl u2 w2)) n1 n2
end Rb

set_option Elab.async false
set_option linter.all false
set_option maxRecDepth 100000
open PySem PySem.W PyProof.Rows in
set_option maxRecDepth 100000 in
set_option maxHeartbeats 0 in
theorem PySem.Challenge.cw_relaybanks_k40_whole_closures_holds : PySem.Challenge.rw_relaybanks_k40_whole_closures.Holds := by
  w_on; o_law; k_head; (case hw => w_witness2)
  k_fill
  refine Rb.walk (l := PySem.Challenge.rw_relaybanks_k40_whole_closures) rfl rfl (fun w h Y => PySem.W.kIn_of Y) ?F
  case F =>
    intro w mg fa h KX G hmg tab
    refine' Rb.all_mk KX G hmg tab ?a0 ?l0 ?c0 ?k0 ?a1 ?l1 ?c1 ?k1 ?a2 ?l2 ?c2 ?k2 ?a3 ?l3 ?c3 ?k3 ?a4 ?l4 ?c4 ?k4 ?a5 ?l5 ?c5 ?k5 ?a6 ?l6 ?c6 ?k6 ?a7 ?l7 ?c7 ?k7 ?a8 ?l8 ?c8 ?k8 ?a9 ?l9 ?c9 ?k9 ?a10 ?l10 ?c10 ?k10 ?a11 ?l11 ?c11 ?k11 ?a12 ?l12 ?c12 ?k12 ?a13 ?l13 ?c13 ?k13 ?a14 ?l14 ?c14 ?k14 ?a15 ?l15 ?c15 ?k15 ?a16 ?l16 ?c16 ?k16 ?a17 ?l17 ?c17 ?k17 ?a18 ?l18 ?c18 ?k18 ?a19 ?l19 ?c19 ?k19 ?a20 ?l20 ?c20 ?k20 ?a21 ?l21 ?c21 ?k21 ?a22 ?l22 ?c22 ?k22 ?t_isi ?t_int ?t_bool ?t_tuple ?t_list ?t_str ?t_dict ?t_len ?t_range ?t_enum ?t_all ?t_min ?t_max ?t_sorted ?t_most ?u1 ?u2 ?w1 ?w2 ?y1 ?y2 ?n1 ?n2
    (case a0 => k_is)
    (case l0 => k_is)
    (case c0 => k_is)
    (case k0 => k_is)
    (case a1 => k_is)
    (case l1 => k_is)
    (case c1 => k_is)
    (case k1 => k_is)
    (case a2 => k_is)
    (case l2 => k_is)
    (case c2 => k_is)
    (case k2 => k_is)
    (case a3 => k_is)
    (case l3 => k_is)
    (case c3 => k_is)
    (case k3 => k_is)
    (case a4 => k_is)
    (case l4 => k_is)
    (case c4 => k_is)
    (case k4 => k_is)
    (case a5 => k_is)
    (case l5 => k_is)
    (case c5 => k_is)
    (case k5 => k_is)
    (case a6 => k_is)
    (case l6 => k_is)
    (case c6 => k_is)
    (case k6 => k_is)
    (case a7 => k_is)
    (case l7 => k_is)
    (case c7 => k_is)
    (case k7 => k_is)
    (case a8 => k_is)
    (case l8 => k_is)
    (case c8 => k_is)
    (case k8 => k_is)
    (case a9 => k_is)
    (case l9 => k_is)
    (case c9 => k_is)
    (case k9 => k_is)
    (case a10 => k_is)
    (case l10 => k_is)
    (case c10 => k_is)
    (case k10 => k_is)
    (case a11 => k_is)
    (case l11 => k_is)
    (case c11 => k_is)
    (case k11 => k_is)
    (case a12 => k_is)
    (case l12 => k_is)
    (case c12 => k_is)
    (case k12 => k_is)
    (case a13 => k_is)
    (case l13 => k_is)
    (case c13 => k_is)
    (case k13 => k_is)
    (case a14 => k_is)
    (case l14 => k_is)
    (case c14 => k_is)
    (case k14 => k_is)
    (case a15 => k_is)
    (case l15 => k_is)
    (case c15 => k_is)
    (case k15 => k_is)
    (case a16 => k_is)
    (case l16 => k_is)
    (case c16 => k_is)
    (case k16 => k_is)
    (case a17 => k_is)
    (case l17 => k_is)
    (case c17 => k_is)
    (case k17 => k_is)
    (case a18 => k_is)
    (case l18 => k_is)
    (case c18 => k_is)
    (case k18 => k_is)
    (case a19 => k_is)
    (case l19 => k_is)
    (case c19 => k_is)
    (case k19 => k_is)
    (case a20 => k_is)
    (case l20 => k_is)
    (case c20 => k_is)
    (case k20 => k_is)
    (case a21 => k_is)
    (case l21 => k_is)
    (case c21 => k_is)
    (case k21 => k_is)
    (case a22 => k_is)
    (case l22 => k_is)
    (case c22 => k_is)
    (case k22 => k_is)
    (case t_isi => k_is)
    (case t_int => k_is)
    (case t_bool => k_is)
    (case t_tuple => k_is)
    (case t_list => k_is)
    (case t_str => k_is)
    (case t_dict => k_is)
    (case t_len => k_is)
    (case t_range => k_is)
    (case t_enum => k_is)
    (case t_all => k_is)
    (case t_min => k_is)
    (case t_max => k_is)
    (case t_sorted => k_is)
    (case t_most => k_is)
    (case u1 => k_is)
    (case u2 => k_is)
    (case w1 => exact rfl)
    (case w2 => exact rfl)
    (case y1 => exact rfl)
    (case y2 => exact rfl)
    (case n1 => kernel_rfl)
    (case n2 => kernel_rfl)

